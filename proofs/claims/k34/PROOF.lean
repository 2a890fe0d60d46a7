import PyProof.Rows.All
import Wide.All
import OpenK.AllK
import Wide.FinOn
import HandS.ForMost
import HandS.Exc
import HandS.WordsExc
import HandS.Defaults
import HandS.TupAny
import HandS.IsInst
import HandS.TupMul
import HandS.Deep
import HandS.Style
import HandS.SortInts
import HandS.RaiseMore
import PyProof.ReprRoads
import HandS.Zip
import HandS.Ends
import HandS.SetFor
import HandS.Strs
import PyProof.Rows.SetFrom
import HandS.HeadHook4
import HandS.EndBits
import KE.GoesEnum
import KE.GoesMore
import HandS.Star
import HandS.Conv
import KE.GoesZip
import KE.KDictZip
import HandS.ListItems
import PyProof.Rows.ChunkEnd
import KE.KStateDown
import PySem.Challenge.RW_surelywrong_k34_segments_and_layers
import HandS.Head0
import HandS.Head1
import HandS.Head2
import HandS.HeadEnd
set_option Elab.async false
set_option linter.all false
set_option maxRecDepth 100000
set_option maxHeartbeats 0
namespace F
open PySem PySem.Spec PyProof.Rows L2
/-! ## data -/
/-- a value as data; obj n: the n-th object of the store -/
inductive D where
  | non | bl (b : Bool) | int (i : Int) | str (x : Str)
  | tup (xs : List D) | lst (xs : List D) | dic (kvs : List (D × D)) | obj (n : Nat) | scr (ns : List Int)
/-- an exception as data: its class's name, its fields -/
structure Ex where
  cls : Str
  fs : List (Str × D)
/-- an object of the store -/
inductive OS where
  | feed
  | fd (cs : List Int) (sp lf tn : Int)
  | ins (cls : Str) (fs : List (Str × D))

/-! ## the monad -/
inductive M (α : Type) where
  | ret (a : α)
  | err (e : Ex)
  | bad
  | draw (o : Nat) (n : Int) (k : Int → M α)
  | get (k : List OS → M α)
  | put (s : List OS) (k : M α)
namespace M
variable {α β γ : Type}
def bind : M α → (α → M β) → M β
  | .ret a, f => f a
  | .err e, _ => .err e
  | .bad, _ => .bad
  | .draw o n k, f => .draw o n fun i => (k i).bind f
  | .get k, f => .get fun s => (k s).bind f
  | .put s k, f => .put s (k.bind f)
instance : Monad M where
  pure := .ret
  bind := bind
/-- an error becomes bad -/
def noerr : M α → M α
  | .ret a => .ret a
  | .err _ => .bad
  | .bad => .bad
  | .draw o n k => .draw o n fun i => (k i).noerr
  | .get k => .get fun s => (k s).noerr
  | .put s k => .put s k.noerr
@[simp] theorem ret_bind (a : α) (f : α → M β) : (M.ret a >>= f) = f a := rfl
@[simp] theorem pure_eq (a : α) : (pure a : M α) = M.ret a := rfl
@[simp] theorem err_bind (e : Ex) (f : α → M β) : ((M.err e : M α) >>= f) = M.err e := rfl
@[simp] theorem bad_bind (f : α → M β) : ((M.bad : M α) >>= f) = M.bad := rfl
theorem bind_def (m : M α) (f : α → M β) : (m >>= f) = m.bind f := rfl
theorem bind_assoc' (m : M α) (f : α → M β) (g : β → M γ) : (m.bind f).bind g = m.bind fun a => (f a).bind g := by
  induction m with
  | ret a => rfl
  | err e => rfl
  | bad => rfl
  | draw o n k ih => simp only [bind]; congr 1; funext i; exact ih i
  | get k ih => simp only [bind]; congr 1; funext i; exact ih i
  | put s k ih => simp only [bind]; rw [ih]
theorem bind_assoc (m : M α) (f : α → M β) (g : β → M γ) : ((m >>= f) >>= g) = (m >>= fun a => f a >>= g) := bind_assoc' m f g
theorem bind_ret (m : M α) : (m >>= M.ret) = m := by
  show m.bind M.ret = m
  induction m with
  | ret a => rfl
  | err e => rfl
  | bad => rfl
  | draw o n k ih => simp only [bind]; congr 1; funext i; exact ih i
  | get k ih => simp only [bind]; congr 1; funext i; exact ih i
  | put s k ih => simp only [bind]; rw [ih]
end M
/-- what must hold ahead -/
def wp {α : Type} : M α → List OS → (α → List OS → Prop) → (Ex → List OS → Prop) → Prop
  | .ret a, s, Q, _ => Q a s
  | .err e, s, _, E => E e s
  | .bad, _, _, _ => False
  | .draw o n k, s, Q, E => (∃ x, s[o]? = some x ∧ x = OS.feed) ∧ 0 < n ∧ n < 1073741824 ∧ ∀ i, 0 ≤ i → i < n → wp (k i) s Q E
  | .get k, s, Q, E => wp (k s) s Q E
  | .put s' k, _, Q, E => wp k s' Q E
section
variable {α β : Type} {s : List OS} {Q Q' : α → List OS → Prop} {E E' : Ex → List OS → Prop}
theorem wp_mono : ∀ {m : M α} {s : List OS}, wp m s Q E → (∀ a s, Q a s → Q' a s) → (∀ e s, E e s → E' e s) → wp m s Q' E' := by
  intro m
  induction m with
  | ret a => intro s h hq he; exact hq _ _ h
  | err e => intro s h hq he; exact he _ _ h
  | bad => intro s h hq he; exact h
  | draw o n k ih => intro s h hq he; exact ⟨h.1, h.2.1, h.2.2.1, fun i h0 h1 => ih i (h.2.2.2 i h0 h1) hq he⟩
  | get k ih => intro s h hq he; exact ih s h hq he
  | put s k ih => intro _ h hq he; exact ih h hq he
theorem wp_bind {f : α → M β} {Q : β → List OS → Prop} : ∀ {m : M α} {s : List OS}, wp (m >>= f) s Q E ↔ wp m s (fun a s' => wp (f a) s' Q E) E := by
  intro m
  induction m with
  | ret a => intro s; exact Iff.rfl
  | err e => intro s; exact Iff.rfl
  | bad => intro s; exact Iff.rfl
  | draw o n k ih => intro s; exact ⟨fun h => ⟨h.1, h.2.1, h.2.2.1, fun i h0 h1 => (ih i).mp (h.2.2.2 i h0 h1)⟩, fun h => ⟨h.1, h.2.1, h.2.2.1, fun i h0 h1 => (ih i).mpr (h.2.2.2 i h0 h1)⟩⟩
  | get k ih => intro s; exact ih s
  | put s k ih => intro _; exact ih
theorem wp_noerr : ∀ {m : M α} {s : List OS}, wp m.noerr s Q E ↔ wp m s Q (fun _ _ => False) := by
  intro m
  induction m with
  | ret a => intro s; exact Iff.rfl
  | err e => intro s; exact Iff.rfl
  | bad => intro s; exact Iff.rfl
  | draw o n k ih => intro s; exact ⟨fun h => ⟨h.1, h.2.1, h.2.2.1, fun i h0 h1 => (ih i).mp (h.2.2.2 i h0 h1)⟩, fun h => ⟨h.1, h.2.1, h.2.2.1, fun i h0 h1 => (ih i).mpr (h.2.2.2 i h0 h1)⟩⟩
  | get k ih => intro s; exact ih s
  | put s k ih => intro _; exact ih
end

/-! ## data in the heap -/
def kD : Key → D
  | .inl i => .int i
  | .inr x => .str x
mutual
inductive Rep (K : PySem.W.Frag) (F : Hp) (θ : List Addr) : V → D → Prop
  | non : Rep K F θ .non .non
  | bl (b : Bool) : Rep K F θ (.bl b) (.bl b)
  | int (i : Int) : Rep K F θ (.int i) (.int i)
  | str (x : Str) : Rep K F θ (.str x) (.str x)
  | tup {a : Addr} {xs : List V} {ds : List D} : SqT K F a xs → RepL K F θ xs ds → Rep K F θ (.ref a) (.tup ds)
  | lst {a : Addr} {xs : List V} {ds : List D} : F a = some (.lst xs) → RepL K F θ xs ds → Rep K F θ (.ref a) (.lst ds)
  | dic {a : Addr} {kvs : List (Key × V)} {ds : List (D × D)} : F a = some (.dK kvs) → RepK K F θ kvs ds → Rep K F θ (.ref a) (.dic ds)
  | obj {a : Addr} {n : Nat} : θ[n]? = some a → Rep K F θ (.ref a) (.obj n)
  | scr {a : Addr} {ns : List Int} : SqL K F a (ns.map V.int) → Rep K F θ (.ref a) (.scr ns)
inductive RepL (K : PySem.W.Frag) (F : Hp) (θ : List Addr) : List V → List D → Prop
  | nil : RepL K F θ [] []
  | cons {v : V} {d : D} {vs : List V} {ds : List D} : Rep K F θ v d → RepL K F θ vs ds → RepL K F θ (v :: vs) (d :: ds)
inductive RepK (K : PySem.W.Frag) (F : Hp) (θ : List Addr) : List (Key × V) → List (D × D) → Prop
  | nil : RepK K F θ [] []
  | cons {k : Key} {v : V} {d : D} {vs : List (Key × V)} {ds : List (D × D)} : Rep K F θ v d → RepK K F θ vs ds → RepK K F θ ((k, v) :: vs) ((kD k, d) :: ds)
end
theorem Rd.sub {F H : Hp} (h : ∀ a o, F a = some o → H a = some o) {a : Addr} {u : HO} (r : Rd F a u) : Rd H a u := by
  rcases r with r | ⟨o, r⟩
  · exact .inl (h _ _ r)
  · exact .inr ⟨o, h _ _ r⟩
theorem SqL.sub {K : PySem.W.Frag} {F H : Hp} (h : ∀ a o, F a = some o → H a = some o) {a : Addr} {xs : List V} (r : SqL K F a xs) : SqL K H a xs := by
  rcases r with r | r
  · exact .inl (Rd.sub h r)
  · exact .inr r
theorem SqT.sub {K : PySem.W.Frag} {F H : Hp} (h : ∀ a o, F a = some o → H a = some o) {a : Addr} {xs : List V} (r : SqT K F a xs) : SqT K H a xs := by
  rcases r with r | r
  · exact .inl (Rd.sub h r)
  · exact .inr r
mutual
theorem Rep.mono {K : PySem.W.Frag} {F F' : Hp} {θ θ' : List Addr} : ∀ {v : V} {d : D}, Rep K F θ v d → (hF : ∀ a o, F a = some o → F' a = some o) → (hθ : ∀ (n : Nat) (a : Addr), θ[n]? = some a → θ'[n]? = some a) → Rep K F' θ' v d
  | _, _, .non, _, _ => .non
  | _, _, .bl b, _, _ => .bl b
  | _, _, .int i, _, _ => .int i
  | _, _, .str x, _, _ => .str x
  | _, _, .tup h r, hF, hθ => .tup (SqT.sub hF h) (RepL.mono r hF hθ)
  | _, _, .lst h r, hF, hθ => .lst (hF _ _ h) (RepL.mono r hF hθ)
  | _, _, .dic h r, hF, hθ => .dic (hF _ _ h) (RepK.mono r hF hθ)
  | _, _, .obj h, _, hθ => .obj (hθ _ _ h)
  | _, _, .scr h, hF, _ => .scr (SqL.sub hF h)
theorem RepL.mono {K : PySem.W.Frag} {F F' : Hp} {θ θ' : List Addr} : ∀ {vs : List V} {ds : List D}, RepL K F θ vs ds → (hF : ∀ a o, F a = some o → F' a = some o) → (hθ : ∀ (n : Nat) (a : Addr), θ[n]? = some a → θ'[n]? = some a) → RepL K F' θ' vs ds
  | _, _, .nil, _, _ => .nil
  | _, _, .cons h r, hF, hθ => .cons (Rep.mono h hF hθ) (RepL.mono r hF hθ)
theorem RepK.mono {K : PySem.W.Frag} {F F' : Hp} {θ θ' : List Addr} : ∀ {vs : List (Key × V)} {ds : List (D × D)}, RepK K F θ vs ds → (hF : ∀ a o, F a = some o → F' a = some o) → (hθ : ∀ (n : Nat) (a : Addr), θ[n]? = some a → θ'[n]? = some a) → RepK K F' θ' vs ds
  | _, _, .nil, _, _ => .nil
  | _, _, .cons h r, hF, hθ => .cons (Rep.mono h hF hθ) (RepK.mono r hF hθ)
end
section
variable {K : PySem.W.Frag} {F : Hp} {θ : List Addr}
theorem RepL.length {vs : List V} {ds : List D} (r : RepL K F θ vs ds) : vs.length = ds.length := by
  induction ds generalizing vs with
  | nil => cases r; rfl
  | cons d ds ih => cases r with | cons h r => simp [ih r]
theorem RepL.get {vs : List V} {ds : List D} {i : Nat} {d : D} (r : RepL K F θ vs ds) (e : ds[i]? = some d) : ∃ v, vs[i]? = some v ∧ Rep K F θ v d := by
  induction ds generalizing vs i with
  | nil => simp at e
  | cons d' ds ih =>
    cases r with
    | cons h r =>
      cases i with
      | zero => simp at e; subst e; exact ⟨_, rfl, h⟩
      | succ i => simpa using ih r (by simpa using e)
theorem RepL.getV {vs : List V} {ds : List D} {i : Nat} {v : V} (r : RepL K F θ vs ds) (e : vs[i]? = some v) : ∃ d, ds[i]? = some d ∧ Rep K F θ v d := by
  induction ds generalizing vs i with
  | nil => cases r; simp at e
  | cons d' ds ih =>
    cases r with
    | cons h r =>
      cases i with
      | zero => simp at e; subst e; exact ⟨_, rfl, h⟩
      | succ i => simpa using ih r (by simpa using e)
theorem RepL.append {vs ws : List V} {ds es : List D} (r : RepL K F θ vs ds) (q : RepL K F θ ws es) : RepL K F θ (vs ++ ws) (ds ++ es) := by
  induction ds generalizing vs with
  | nil => cases r; exact q
  | cons d ds ih => cases r with | cons h r => exact .cons h (ih r)
theorem RepL.take {vs : List V} {ds : List D} (n : Nat) (r : RepL K F θ vs ds) : RepL K F θ (vs.take n) (ds.take n) := by
  induction ds generalizing vs n with
  | nil => cases r; simp; exact .nil
  | cons d ds ih =>
    cases r with
    | cons h r =>
      cases n with
      | zero => exact .nil
      | succ n => exact .cons h (ih n r)
theorem RepL.drop {vs : List V} {ds : List D} (n : Nat) (r : RepL K F θ vs ds) : RepL K F θ (vs.drop n) (ds.drop n) := by
  induction ds generalizing vs n with
  | nil => cases r; simp; exact .nil
  | cons d ds ih =>
    cases r with
    | cons h r =>
      cases n with
      | zero => exact .cons h r
      | succ n => exact ih n r
theorem RepL.reverse {vs : List V} {ds : List D} (r : RepL K F θ vs ds) : RepL K F θ vs.reverse ds.reverse := by
  induction ds generalizing vs with
  | nil => cases r; exact .nil
  | cons d ds ih =>
    cases r with
    | cons h r =>
      rw [List.reverse_cons, List.reverse_cons]
      exact (ih r).append (.cons h .nil)
theorem RepL.set {vs : List V} {ds : List D} {v : V} {d : D} (n : Nat) (r : RepL K F θ vs ds) (h : Rep K F θ v d) : RepL K F θ (vs.set n v) (ds.set n d) := by
  induction ds generalizing vs n with
  | nil => cases r; exact .nil
  | cons d ds ih =>
    cases r with
    | cons h' r =>
      cases n with
      | zero => exact .cons h r
      | succ n => exact .cons h' (ih n r)
end

/-! ## the state -/
/-- the ghost: the part of the heap that stays, the store's addresses -/
structure Gw where
  F : Hp
  θ : List Addr
def feedKVs (c : Addr) (sp lf tn : Int) : List (Key × V) := [(.inr "cells", .ref c), (.inr "at", .int sp), (.inr "left", .int lf), (.inr "count", .int tn)]
def OSOk (K : PySem.W.Frag) (g : Gw) (H : Hp) (a : Addr) : OS → Prop
  | .feed => ∃ (c : Addr) (cs : List Int) (sp lf tn : Int), H a = some (.dK (feedKVs c sp lf tn)) ∧ g.F c = some (.lst (cs.map V.int))
  | .fd cs sp lf tn => ∃ c : Addr, H a = some (.dK (feedKVs c sp lf tn)) ∧ g.F c = some (.lst (cs.map V.int))
  | .ins _ _ => False
structure StOk (K : PySem.W.Frag) (S : List OS) (g : Gw) (H : Hp) : Prop where
  sub : ∀ a o, g.F a = some o → H a = some o
  mt : ∀ a ∈ g.θ, g.F a = none
  len : S.length = g.θ.length
  nd : g.θ.Nodup
  obj : ∀ (n : Nat) (a : Addr) (o : OS), g.θ[n]? = some a → S[n]? = some o → OSOk K g H a o
structure Grow (g : Gw) (H : Hp) (g' : Gw) (H' : Hp) : Prop where
  dom : ∀ a, H' a = none → H a = none
  keep : ∀ a o, H a = some o → a ∉ g.θ → H' a = some o
  th : ∃ ext, g'.θ = g.θ ++ ext ∧ ∀ a ∈ ext, H a = none
  fm : ∀ a o, g.F a = some o → g'.F a = some o
  fn : ∀ a o, g'.F a = some o → g.F a = some o ∨ H a = none
/-- what stays, stays -/
structure Ext (g g' : Gw) : Prop where
  fm : ∀ a o, g.F a = some o → g'.F a = some o
  thm : ∀ (n : Nat) (x : Addr), g.θ[n]? = some x → g'.θ[n]? = some x
theorem Ext.refl {g : Gw} : Ext g g := ⟨fun _ _ h => h, fun _ _ h => h⟩
theorem Ext.trans {g g1 g2 : Gw} (a : Ext g g1) (b : Ext g1 g2) : Ext g g2 := ⟨fun x o h => b.fm x o (a.fm x o h), fun n x h => b.thm n x (a.thm n x h)⟩
section
variable {K : PySem.W.Frag} {S : List OS} {g g1 g2 : Gw} {H H1 H2 : Hp}
theorem Grow.refl : Grow g H g H := ⟨fun _ h => h, fun _ _ h _ => h, ⟨[], by simp, by simp⟩, fun _ _ h => h, fun _ _ h => .inl h⟩
theorem Grow.trans (a : Grow g H g1 H1) (b : Grow g1 H1 g2 H2) : Grow g H g2 H2 := by
  obtain ⟨e1, h1, n1⟩ := a.th
  obtain ⟨e2, h2, n2⟩ := b.th
  refine ⟨fun x h => a.dom x (b.dom x h), fun x o h hx => b.keep x o (a.keep x o h hx) ?_, ⟨e1 ++ e2, by rw [h2, h1, List.append_assoc], fun x hx => ?_⟩, fun x o h => b.fm x o (a.fm x o h), fun x o h => ?_⟩
  · rw [h1, List.mem_append]
    rintro (z | z)
    · exact hx z
    · rw [n1 x z] at h; cases h
  · rcases List.mem_append.mp hx with z | z
    · exact n1 x z
    · exact a.dom x (n2 x z)
  · rcases b.fn x o h with z | z
    · exact a.fn x o z
    · exact .inr (a.dom x z)
theorem Grow.thm (a : Grow g H g1 H1) : ∀ (n : Nat) (x : Addr), g.θ[n]? = some x → g1.θ[n]? = some x := fun n x h => by
  obtain ⟨e1, h1, _⟩ := a.th
  have hl : n < g.θ.length := (List.getElem?_eq_some_iff.mp h).1
  rw [h1, List.getElem?_append_left hl]
  exact h
theorem Grow.ext (a : Grow g H g1 H1) : Ext g g1 := ⟨a.fm, a.thm⟩
theorem Ext.rep (a : Ext g g1) {v : V} {d : D} (r : Rep K g.F g.θ v d) : Rep K g1.F g1.θ v d := r.mono a.fm a.thm
theorem Ext.repL (a : Ext g g1) {v : List V} {d : List D} (r : RepL K g.F g.θ v d) : RepL K g1.F g1.θ v d := r.mono a.fm a.thm
theorem Grow.rep (a : Grow g H g1 H1) {v : V} {d : D} (r : Rep K g.F g.θ v d) : Rep K g1.F g1.θ v d := r.mono a.fm a.thm
theorem Grow.repL (a : Grow g H g1 H1) {v : List V} {d : List D} (r : RepL K g.F g.θ v d) : RepL K g1.F g1.θ v d := r.mono a.fm a.thm
theorem OSOk.mono {a : Addr} {o : OS} (h : OSOk K g H a o) (e : H1 a = H a) (f : ∀ a o, g.F a = some o → g1.F a = some o) : OSOk K g1 H1 a o := by
  cases o with
  | feed =>
    obtain ⟨c, cs, sp, lf, tn, h1, h2⟩ := h
    exact ⟨c, cs, sp, lf, tn, by rw [e]; exact h1, f _ _ h2⟩
  | fd cs sp lf tn =>
    obtain ⟨c, h1, h2⟩ := h
    exact ⟨c, by rw [e]; exact h1, f _ _ h2⟩
  | ins c fs => exact h
theorem StOk.there (ok : StOk K S g H) {a : Addr} (h : a ∈ g.θ) : ∃ o, H a = some o := by
  obtain ⟨n, hn, e⟩ := List.mem_iff_getElem.mp h
  have hs : n < S.length := by rw [ok.len]; exact hn
  have q := ok.obj n a S[n] (by rw [List.getElem?_eq_getElem hn, e]) (List.getElem?_eq_getElem hs)
  cases hS : S[n] with
  | feed => rw [hS] at q; obtain ⟨c, cs, sp, lf, tn, h1, _⟩ := q; exact ⟨_, h1⟩
  | fd cs sp lf tn => rw [hS] at q; obtain ⟨c, h1, _⟩ := q; exact ⟨_, h1⟩
  | ins c fs => rw [hS] at q; exact q.elim
/-- a new thing that stays -/
theorem StOk.laid (ok : StOk K S g H) {p : Addr} {o : HO} (hp : H p = none) : StOk K S ⟨upd g.F p o, g.θ⟩ (upd H p o) ∧ Grow g H ⟨upd g.F p o, g.θ⟩ (upd H p o) := by
  have hF : g.F p = none := by
    cases e : g.F p with
    | none => rfl
    | some x => rw [ok.sub _ _ e] at hp; cases hp
  have np : ∀ a ∈ g.θ, a ≠ p := fun a ha e => by
    obtain ⟨o, h⟩ := ok.there ha
    rw [e, hp] at h; cases h
  refine ⟨⟨fun a x h => ?_, fun a h => ?_, ok.len, ok.nd, fun n a x h1 h2 => (ok.obj n a x h1 h2).mono ?_ fun b y h => ?_⟩, ⟨fun a h => ?_, fun a x h _ => ?_, ⟨[], by simp, by simp⟩, fun a x h => ?_, fun a x h => ?_⟩⟩
  · have h : upd g.F p o a = some x := h
    by_cases e : a = p
    · subst e; rw [upd_same] at h ⊢; exact h
    · rw [upd_ne e] at h ⊢; exact ok.sub _ _ h
  · show upd g.F p o a = none
    rw [upd_ne (np a h)]; exact ok.mt a h
  · exact upd_ne (np a (List.mem_of_getElem? h1))
  · show upd g.F p o b = some y
    rw [upd_ne (ne_of_none h hF)]; exact h
  · by_cases e : a = p
    · subst e; exact hp
    · rw [upd_ne e] at h; exact h
  · rw [upd_ne (ne_of_none h hp)]; exact h
  · show upd g.F p o a = some x
    rw [upd_ne (ne_of_none h hF)]; exact h
  · by_cases e : a = p
    · subst e; exact .inr hp
    · have h : upd g.F p o a = some x := h
      rw [upd_ne e] at h; exact .inl h
/-- a new thing that may still change -/
theorem StOk.made (ok : StOk K S g H) {p : Addr} {o : HO} (hp : H p = none) : StOk K S g (upd H p o) ∧ Grow g H g (upd H p o) ∧ g.F p = none ∧ p ∉ g.θ := by
  have hF : g.F p = none := by
    cases e : g.F p with
    | none => rfl
    | some x => rw [ok.sub _ _ e] at hp; cases hp
  have np : ∀ a ∈ g.θ, a ≠ p := fun a ha e => by
    obtain ⟨o, h⟩ := ok.there ha
    rw [e, hp] at h; cases h
  refine ⟨⟨fun a x h => ?_, ok.mt, ok.len, ok.nd, fun n a x h1 h2 => (ok.obj n a x h1 h2).mono (upd_ne (np a (List.mem_of_getElem? h1))) fun b y h => h⟩, ⟨fun a h => ?_, fun a x h _ => ?_, ⟨[], by simp, by simp⟩, fun a x h => h, fun a x h => .inl h⟩, hF, fun h => np p h rfl⟩
  · rw [upd_ne (ne_of_none h hF)]; exact ok.sub _ _ h
  · by_cases e : a = p
    · subst e; exact hp
    · rw [upd_ne e] at h; exact h
  · rw [upd_ne (ne_of_none h hp)]; exact h
/-- one's own thing changes -/
theorem StOk.wrote (ok : StOk K S g H) {p : Addr} {o o' : HO} (hp : H p = some o) (hF : g.F p = none) (hθ : p ∉ g.θ) : StOk K S g (upd H p o') := by
  refine ⟨fun a x h => ?_, ok.mt, ok.len, ok.nd, fun n a x h1 h2 => (ok.obj n a x h1 h2).mono (upd_ne fun e => hθ (by rw [← e]; exact List.mem_of_getElem? h1)) fun b y h => h⟩
  rw [upd_ne (ne_of_none h hF)]; exact ok.sub _ _ h
/-- one's own thing stays from now on -/
theorem StOk.froze (ok : StOk K S g H) {p : Addr} {o : HO} (hp : H p = some o) (hF : g.F p = none) (hθ : p ∉ g.θ) : StOk K S ⟨upd g.F p o, g.θ⟩ H := by
  refine ⟨fun a x h => ?_, fun a h => ?_, ok.len, ok.nd, fun n a x h1 h2 => (ok.obj n a x h1 h2).mono rfl fun b y h => ?_⟩
  · by_cases e : a = p
    · subst e
      have h : upd g.F a o a = some x := h
      rw [upd_same] at h; rw [hp]; exact h
    · have h : upd g.F p o a = some x := h
      rw [upd_ne e] at h; exact ok.sub _ _ h
  · show upd g.F p o a = none
    rw [upd_ne fun e => hθ (by rw [← e]; exact h)]; exact ok.mt a h
  · show upd g.F p o b = some y
    rw [upd_ne (ne_of_none h hF)]; exact h
theorem upd_fm {F : Hp} {p : Addr} {o : HO} (hF : F p = none) : ∀ a x, F a = some x → upd F p o a = some x := fun a x h => by
  rw [upd_ne (ne_of_none h hF)]; exact h
end

/-! ## the slots -/
inductive Sl where
  | no
  | v (d : D)
  | own (ds : List D)
  | ownd (kvs : List (D × D))
def Sl.isOwn : Sl → Bool
  | .own _ => true
  | .ownd _ => true
  | _ => false
abbrev Ev := List Sl
def OwnAt (g : Gw) (L : Addr → Prop) (a : Addr) : Prop := L a ∧ g.F a = none ∧ a ∉ g.θ
def SlOk (K : PySem.W.Frag) (L : Addr → Prop) (g : Gw) (H : Hp) : Option V → Sl → Prop
  | _, .no => True
  | sv, .v d => ∃ v, sv = some v ∧ Rep K g.F g.θ v d
  | sv, .own ds => ∃ a vs, sv = some (.ref a) ∧ H a = some (.lst vs) ∧ RepL K g.F g.θ vs ds ∧ OwnAt g L a
  | sv, .ownd kvs => ∃ a vs, sv = some (.ref a) ∧ H a = some (.dK vs) ∧ RepK K g.F g.θ vs kvs ∧ OwnAt g L a
structure EnvOk (K : PySem.W.Frag) (L : Addr → Prop) (g : Gw) (H : Hp) (σ : L2.St) (ρ : Ev) : Prop where
  len : σ.length = ρ.length
  ok : ∀ (i : Nat) sv sl, σ[i]? = some sv → ρ[i]? = some sl → SlOk K L g H sv sl
  dis : ∀ (i j : Nat) (a : Addr) x y, i ≠ j → σ[i]? = some (some (.ref a)) → σ[j]? = some (some (.ref a)) → ρ[i]? = some x → ρ[j]? = some y → x.isOwn = true → y.isOwn = true → False
section
variable {K : PySem.W.Frag} {L : Addr → Prop} {S : List OS} {g g1 g2 : Gw} {H H1 H2 : Hp} {σ : L2.St} {ρ : Ev}
theorem OwnAt.grow {a : Addr} (h : OwnAt g L a) {o : HO} (ho : H a = some o) (gr : Grow g H g1 H1) : OwnAt g1 L a := by
  refine ⟨h.1, ?_, fun z => ?_⟩
  · cases e : g1.F a with
    | none => rfl
    | some x =>
      rcases gr.fn _ _ e with q | q
      · rw [h.2.1] at q; cases q
      · rw [ho] at q; cases q
  · obtain ⟨ext, e, n⟩ := gr.th
    rw [e, List.mem_append] at z
    rcases z with z | z
    · exact h.2.2 z
    · rw [n a z] at ho; cases ho
theorem RepK.grow (a : Grow g H g1 H1) {v : List (Key × V)} {d : List (D × D)} (r : RepK K g.F g.θ v d) : RepK K g1.F g1.θ v d := r.mono a.fm a.thm
theorem EnvOk.grow (en : EnvOk K L g H σ ρ) (gr : Grow g H g1 H1) : EnvOk K L g1 H1 σ ρ := by
  refine ⟨en.len, fun i sv sl h1 h2 => ?_, en.dis⟩
  have q := en.ok i sv sl h1 h2
  cases sl with
  | no => trivial
  | v d => obtain ⟨v, e, r⟩ := q; exact ⟨v, e, gr.rep r⟩
  | own ds => obtain ⟨a, vs, e, h, r, o⟩ := q; exact ⟨a, vs, e, gr.keep _ _ h o.2.2, gr.repL r, o.grow h gr⟩
  | ownd ds => obtain ⟨a, vs, e, h, r, o⟩ := q; exact ⟨a, vs, e, gr.keep _ _ h o.2.2, RepK.grow gr r, o.grow h gr⟩
theorem EnvOk.imp {L' : Addr → Prop} (en : EnvOk K L g H σ ρ) (h : ∀ a, L a → L' a) : EnvOk K L' g H σ ρ := by
  refine ⟨en.len, fun i sv sl h1 h2 => ?_, en.dis⟩
  have q := en.ok i sv sl h1 h2
  cases sl with
  | no => trivial
  | v d => exact q
  | own ds => obtain ⟨a, vs, e, h', r, o⟩ := q; exact ⟨a, vs, e, h', r, h _ o.1, o.2⟩
  | ownd ds => obtain ⟨a, vs, e, h', r, o⟩ := q; exact ⟨a, vs, e, h', r, h _ o.1, o.2⟩
/-- a slot gets a value -/
theorem EnvOk.setv (en : EnvOk K L g H σ ρ) (i : Nat) {v : V} {d : D} (r : Rep K g.F g.θ v d) : EnvOk K L g H (σ.set i (some v)) (ρ.set i (.v d)) := by
  refine ⟨by simp [en.len], fun j sv sl h1 h2 => ?_, fun j k a x y hjk h1 h2 h3 h4 h5 h6 => ?_⟩
  · by_cases e : i = j
    · subst e
      have hl : i < σ.length := by
        have := (List.getElem?_eq_some_iff.mp h1).1
        simpa using this
      rw [List.getElem?_set_self hl] at h1
      rw [List.getElem?_set_self (by rw [← en.len]; exact hl)] at h2
      cases h1; cases h2
      exact ⟨v, rfl, r⟩
    · rw [List.getElem?_set_ne e] at h1 h2
      exact en.ok j sv sl h1 h2
  · have key : ∀ (m : Nat) (z : Sl), (ρ.set i (.v d))[m]? = some z → z.isOwn = true → m ≠ i ∧ ρ[m]? = some z := fun m z h ho => by
      by_cases e : i = m
      · subst e
        have hl : i < ρ.length := by
          have := (List.getElem?_eq_some_iff.mp h).1
          simpa using this
        rw [List.getElem?_set_self hl] at h
        cases h; cases ho
      · rw [List.getElem?_set_ne e] at h
        exact ⟨Ne.symm e, h⟩
    obtain ⟨n1, q1⟩ := key j x h3 h5
    obtain ⟨n2, q2⟩ := key k y h4 h6
    rw [List.getElem?_set_ne (Ne.symm n1)] at h1
    rw [List.getElem?_set_ne (Ne.symm n2)] at h2
    exact en.dis j k a x y hjk h1 h2 q1 q2 h5 h6
end

/-! ## the readings -/
section
variable (K : PySem.W.Frag) (mg : Str → Option Value)
/-- the fields of an exception's own dict -/
inductive RepF (K : PySem.W.Frag) (F : Hp) (θ : List Addr) : List (Str × V) → List (Str × D) → Prop
  | nil : RepF K F θ [] []
  | cons {x : Str} {v : V} {d : D} {vs ds} : Rep K F θ v d → RepF K F θ vs ds → RepF K F θ ((x, v) :: vs) ((x, d) :: ds)
def ExR (x : Ex) (g : Gw) (H : Hp) (c : Value) (dx : Option Addr) : Prop :=
  ∃ C a fs, mg x.cls = some (.ref C) ∧ c = .ref C ∧ dx = some a ∧ H a = some (.xd fs) ∧ RepF K g.F g.θ fs x.fs
def VP (g : Gw) (H : Hp) (Q : VK) : D → List OS → Prop := fun d S' => ∀ g' H' v, Grow g H g' H' → StOk K S' g' H' → Rep K g'.F g'.θ v d → Q v H'
def XP (g : Gw) (H : Hp) (E : XK) : Ex → List OS → Prop := fun x S' => ∀ g' H' c dx, Grow g H g' H' → StOk K S' g' H' → ExR K mg x g' H' c dx → E c dx H'
def tE (E : XK) (m : Ev → M D) : TE := fun σ H Q => ∃ g S ρ L, StOk K S g H ∧ EnvOk K L g H σ ρ ∧ wp (m ρ) S (VP K g H Q) (XP K mg g H E)
def BP (g : Gw) (H : Hp) (Q : Bool → Hp → Prop) : Bool → List OS → Prop := fun b S' => ∀ g' H', Grow g H g' H' → StOk K S' g' H' → Q b H'
def tT (E : XK) (m : Ev → M Bool) : TT := fun σ H Q => ∃ g S ρ L, StOk K S g H ∧ EnvOk K L g H σ ρ ∧ wp (m ρ) S (BP K g H Q) (XP K mg g H E)
def LP (g : Gw) (H : Hp) (Q : List V → Hp → Prop) : List D → List OS → Prop := fun ds S' => ∀ g' H' vs, Grow g H g' H' → StOk K S' g' H' → RepL K g'.F g'.θ vs ds → Q vs H'
def tA (E : XK) (m : Ev → M (List D)) : TA := fun σ H Q => ∃ g S ρ L, StOk K S g H ∧ EnvOk K L g H σ ρ ∧ wp (m ρ) S (LP K g H Q) (XP K mg g H E)
/-- a new list, not yet given away -/
def NP (g : Gw) (H : Hp) (Q : VK) : List D → List OS → Prop := fun ds S' => ∀ g' H' a vs, Grow g H g' H' → StOk K S' g' H' → H a = none → H' a = some (.lst vs) → g'.F a = none → a ∉ g'.θ → RepL K g'.F g'.θ vs ds → Q (.ref a) H'
def tN (E : XK) (m : Ev → M (List D)) : TE := fun σ H Q => ∃ g S ρ L, StOk K S g H ∧ EnvOk K L g H σ ρ ∧ wp (m ρ) S (NP K g H Q) (XP K mg g H E)
/-- by values -/
def rD1 (E : XK) (m : D → M D) : V → Hp → VK → Prop := fun x H Q => ∃ g S d, StOk K S g H ∧ Rep K g.F g.θ x d ∧ wp (m d) S (VP K g H Q) (XP K mg g H E)
def rD2 (E : XK) (m : D → D → M D) : R2 := fun x y H Q => ∃ g S d e, StOk K S g H ∧ Rep K g.F g.θ x d ∧ Rep K g.F g.θ y e ∧ wp (m d e) S (VP K g H Q) (XP K mg g H E)
def rDL (E : XK) (m : List D → M D) : List V → Hp → VK → Prop := fun xs H Q => ∃ g S ds, StOk K S g H ∧ RepL K g.F g.θ xs ds ∧ wp (m ds) S (VP K g H Q) (XP K mg g H E)
def rDN (E : XK) (m : List D → M (List D)) : List V → Hp → VK → Prop := fun xs H Q => ∃ g S ds, StOk K S g H ∧ RepL K g.F g.θ xs ds ∧ wp (m ds) S (NP K g H Q) (XP K mg g H E)
/-- statements -/
inductive Ctl where
  | nx (ρ : Ev) | rt (d : D) | bk (ρ : Ev) | ct (ρ : Ev)
def CP (g0 : Gw) (H0 : Hp) (g : Gw) (W : Ends) : Ctl → List OS → Prop
  | .nx ρ, S' => ∀ g' H' σ', Grow g0 H0 g' H' → Ext g g' → StOk K S' g' H' → EnvOk K (fun a => H0 a = none) g' H' σ' ρ → W.nx σ' H'
  | .bk ρ, S' => ∀ g' H' σ', Grow g0 H0 g' H' → Ext g g' → StOk K S' g' H' → EnvOk K (fun a => H0 a = none) g' H' σ' ρ → W.bk σ' H'
  | .ct ρ, S' => ∀ g' H' σ', Grow g0 H0 g' H' → Ext g g' → StOk K S' g' H' → EnvOk K (fun a => H0 a = none) g' H' σ' ρ → W.ct σ' H'
  | .rt d, S' => ∀ g' H' v, Grow g0 H0 g' H' → StOk K S' g' H' → Rep K g'.F g'.θ v d → W.rt v H'
abbrev SM := Ev → M Ctl
def tS (g0 : Gw) (H0 : Hp) (E : XK) (m : SM) : TS := fun W σ H => ∃ g S ρ, Grow g0 H0 g H ∧ StOk K S g H ∧ EnvOk K (fun a => H0 a = none) g H σ ρ ∧ wp (m ρ) S (CP K g0 H0 g W) (XP K mg g0 H0 E)
end
section
variable {K : PySem.W.Frag} {mg : Str → Option Value} {g g1 : Gw} {H H1 : Hp} {S : List OS}
theorem VP.grow {Q : VK} {d : D} (h : VP K g H Q d S) (gr : Grow g H g1 H1) : VP K g1 H1 Q d S := fun g' H' v a b c => h g' H' v (gr.trans a) b c
theorem BP.grow {Q : Bool → Hp → Prop} {d : Bool} (h : BP K g H Q d S) (gr : Grow g H g1 H1) : BP K g1 H1 Q d S := fun g' H' a b => h g' H' (gr.trans a) b
theorem LP.grow {Q : List V → Hp → Prop} {d : List D} (h : LP K g H Q d S) (gr : Grow g H g1 H1) : LP K g1 H1 Q d S := fun g' H' v a b c => h g' H' v (gr.trans a) b c
theorem NP.grow {Q : VK} {d : List D} (h : NP K g H Q d S) (gr : Grow g H g1 H1) : NP K g1 H1 Q d S := fun g' H' a vs x1 x2 x3 => h g' H' a vs (gr.trans x1) x2 (gr.dom _ x3)
theorem XP.grow {E : XK} {x : Ex} (h : XP K mg g H E x S) (gr : Grow g H g1 H1) : XP K mg g1 H1 E x S := fun g' H' c dx a b r => h g' H' c dx (gr.trans a) b r
theorem CP.ext {g0 : Gw} {H0 : Hp} {W : Ends} {c : Ctl} (h : CP K g0 H0 g W c S) (x : Ext g g1) : CP K g0 H0 g1 W c S := by
  cases c with
  | nx ρ => exact fun g' H' σ' a b => h g' H' σ' a (x.trans b)
  | bk ρ => exact fun g' H' σ' a b => h g' H' σ' a (x.trans b)
  | ct ρ => exact fun g' H' σ' a b => h g' H' σ' a (x.trans b)
  | rt d => exact h
/-- a new list is a value -/
theorem NP.toV {Q : VK} {ds : List D} (h : VP K g H Q (.lst ds) S) : NP K g H Q ds S := fun g' H' a vs gr ok hn ha hF hθ r => by
  have ok2 := ok.froze ha hF hθ
  refine h ⟨upd g'.F a (.lst vs), g'.θ⟩ H' (.ref a) ⟨gr.dom, gr.keep, gr.th, fun b o e => upd_fm hF b o (gr.fm b o e), fun b o e => ?_⟩ ok2 (.lst upd_same (r.mono (upd_fm hF) fun _ _ z => z))
  by_cases hb : b = a
  · subst hb; exact .inr hn
  · have e : upd g'.F a (.lst vs) b = some o := e
    rw [upd_ne hb] at e; exact gr.fn b o e
end
end F
namespace F
open PySem PySem.Spec PyProof.Rows L2
/-! ## data: equality -/
mutual
def D.py : D → Option PyData
  | .non => some .none
  | .bl b => some (.bool b)
  | .int i => some (.int i)
  | .str x => some (.str x)
  | .tup xs => match D.pyL xs with
    | some ys => some (.tuple ys)
    | none => none
  | .lst xs => match D.pyL xs with
    | some ys => some (.list ys)
    | none => none
  | .dic _ => none
  | .obj _ => none
  | .scr _ => none
def D.pyL : List D → Option (List PyData)
  | [] => some []
  | x :: xs => match D.py x, D.pyL xs with
    | some y, some ys => some (y :: ys)
    | _, _ => none
end
mutual
/-- == of Python -/
def D.eqv : D → D → Bool
  | .non, .non => true
  | .bl a, .bl b => a == b
  | .bl a, .int j => (if a then 1 else 0) == j
  | .int i, .bl b => i == (if b then 1 else 0)
  | .int i, .int j => i == j
  | .str x, .str y => x == y
  | .lst xs, .lst ys => D.eqvL xs ys
  | .tup xs, .tup ys => D.eqvL xs ys
  | _, _ => false
def D.eqvL : List D → List D → Bool
  | [], [] => true
  | x :: xs, y :: ys => D.eqv x y && D.eqvL xs ys
  | _, _ => false
end
mutual
/-- nesting -/
def D.dep : D → Nat
  | .lst xs => D.depL xs + 1
  | .tup xs => D.depL xs + 1
  | _ => 0
def D.depL : List D → Nat
  | [] => 0
  | x :: xs => max (D.dep x) (D.depL xs)
end
mutual
/-- plain data: no dicts, no objects, sound texts -/
def D.pl : D → Bool
  | .str x => PyData.strOk x
  | .lst xs => D.plL xs
  | .tup xs => D.plL xs
  | .dic _ => false
  | .obj _ => false
  | .scr _ => false
  | _ => true
def D.plL : List D → Bool
  | [] => true
  | x :: xs => D.pl x && D.plL xs
end
/-- data that may be compared -/
def D.sh (d : D) : Bool := d.pl && decide (d.dep ≤ 64)
mutual
theorem D.py_pl : ∀ d : D, d.pl = true → ∃ p, d.py = some p ∧ p.canLay0 = true ∧ p.depth = d.dep
  | .non, _ => ⟨_, rfl, rfl, rfl⟩
  | .bl _, _ => ⟨_, rfl, rfl, rfl⟩
  | .int _, _ => ⟨_, rfl, rfl, rfl⟩
  | .str x, h => ⟨_, rfl, by simpa [D.pl, PyData.canLay0] using h, rfl⟩
  | .tup xs, h => by
    obtain ⟨ps, e, c, z⟩ := D.pyL_pl xs (by simpa [D.pl] using h)
    exact ⟨.tuple ps, by simp [D.py, e], by simpa [PyData.canLay0] using c, by simp [PyData.depth, D.dep, z]⟩
  | .lst xs, h => by
    obtain ⟨ps, e, c, z⟩ := D.pyL_pl xs (by simpa [D.pl] using h)
    exact ⟨.list ps, by simp [D.py, e], by simpa [PyData.canLay0] using c, by simp [PyData.depth, D.dep, z]⟩
  | .dic _, h => by simp [D.pl] at h
  | .obj _, h => by simp [D.pl] at h
  | .scr _, h => by simp [D.pl] at h
theorem D.pyL_pl : ∀ ds : List D, D.plL ds = true → ∃ ps, D.pyL ds = some ps ∧ PyData.canLayAll0 ps = true ∧ PyData.depthAll ps = D.depL ds
  | [], _ => ⟨[], rfl, rfl, rfl⟩
  | d :: ds, h => by
    have h' : d.pl = true ∧ D.plL ds = true := by simpa [D.plL] using h
    obtain ⟨p, e, c, z⟩ := D.py_pl d h'.1
    obtain ⟨ps, es, cs, zs⟩ := D.pyL_pl ds h'.2
    exact ⟨p :: ps, by simp [D.pyL, e, es], by simp [PyData.canLayAll0, c, cs], by simp [PyData.depthAll, D.depL, z, zs]⟩
end
theorem D.py_sh {d : D} (h : d.sh = true) : ∃ p, d.py = some p ∧ SeqAt.shaped p = true := by
  have h' : d.pl = true ∧ d.dep ≤ 64 := by simpa [D.sh] using h
  obtain ⟨p, e, c, z⟩ := D.py_pl d h'.1
  exact ⟨p, e, by simp [SeqAt.shaped, c, z, h'.2]⟩
theorem D.pyL_cons {d : D} {ds : List D} {q : List PyData} (h : D.pyL (d :: ds) = some q) : ∃ p ps, D.py d = some p ∧ D.pyL ds = some ps ∧ q = p :: ps := by
  unfold D.pyL at h
  cases e1 : D.py d with
  | none => rw [e1] at h; cases h
  | some p =>
    cases e2 : D.pyL ds with
    | none => rw [e1, e2] at h; cases h
    | some ps => rw [e1, e2] at h; exact ⟨p, ps, rfl, rfl, (Option.some.inj h).symm⟩
theorem D.py_tup {ds : List D} {q : PyData} (h : D.py (.tup ds) = some q) : ∃ ps, D.pyL ds = some ps ∧ q = .tuple ps := by
  unfold D.py at h
  cases e : D.pyL ds with
  | none => rw [e] at h; cases h
  | some ps => rw [e] at h; exact ⟨ps, rfl, (Option.some.inj h).symm⟩
theorem D.py_lst {ds : List D} {q : PyData} (h : D.py (.lst ds) = some q) : ∃ ps, D.pyL ds = some ps ∧ q = .list ps := by
  unfold D.py at h
  cases e : D.pyL ds with
  | none => rw [e] at h; cases h
  | some ps => rw [e] at h; exact ⟨ps, rfl, (Option.some.inj h).symm⟩
mutual
theorem D.eqv_py : ∀ (d e : D) (p q : PyData), d.py = some p → e.py = some q → D.eqv d e = PyData.eqv p q
  | .non, e, p, q, h1, h2 => by
    cases h1
    cases e with
    | tup ys => obtain ⟨ps, _, rfl⟩ := D.py_tup h2; rfl
    | lst ys => obtain ⟨ps, _, rfl⟩ := D.py_lst h2; rfl
    | dic _ => cases h2
    | obj _ => cases h2
    | scr _ => cases h2
    | _ => cases h2; rfl
  | .bl b, e, p, q, h1, h2 => by
    cases h1
    cases e with
    | tup ys => obtain ⟨ps, _, rfl⟩ := D.py_tup h2; rfl
    | lst ys => obtain ⟨ps, _, rfl⟩ := D.py_lst h2; rfl
    | dic _ => cases h2
    | obj _ => cases h2
    | scr _ => cases h2
    | _ => cases h2; rfl
  | .int i, e, p, q, h1, h2 => by
    cases h1
    cases e with
    | tup ys => obtain ⟨ps, _, rfl⟩ := D.py_tup h2; rfl
    | lst ys => obtain ⟨ps, _, rfl⟩ := D.py_lst h2; rfl
    | dic _ => cases h2
    | obj _ => cases h2
    | scr _ => cases h2
    | _ => cases h2; rfl
  | .str x, e, p, q, h1, h2 => by
    cases h1
    cases e with
    | tup ys => obtain ⟨ps, _, rfl⟩ := D.py_tup h2; rfl
    | lst ys => obtain ⟨ps, _, rfl⟩ := D.py_lst h2; rfl
    | dic _ => cases h2
    | obj _ => cases h2
    | scr _ => cases h2
    | _ => cases h2; rfl
  | .tup xs, e, p, q, h1, h2 => by
    obtain ⟨ps, e1, rfl⟩ := D.py_tup h1
    cases e with
    | tup ys =>
      obtain ⟨qs, e2, rfl⟩ := D.py_tup h2
      show D.eqvL xs ys = PyData.eqvAll ps qs
      exact D.eqvL_py xs ys ps qs e1 e2
    | lst ys => obtain ⟨qs, _, rfl⟩ := D.py_lst h2; rfl
    | dic _ => cases h2
    | obj _ => cases h2
    | scr _ => cases h2
    | _ => cases h2; rfl
  | .lst xs, e, p, q, h1, h2 => by
    obtain ⟨ps, e1, rfl⟩ := D.py_lst h1
    cases e with
    | lst ys =>
      obtain ⟨qs, e2, rfl⟩ := D.py_lst h2
      show D.eqvL xs ys = PyData.eqvAll ps qs
      exact D.eqvL_py xs ys ps qs e1 e2
    | tup ys => obtain ⟨qs, _, rfl⟩ := D.py_tup h2; rfl
    | dic _ => cases h2
    | obj _ => cases h2
    | scr _ => cases h2
    | _ => cases h2; rfl
  | .dic _, _, _, _, h1, _ => by cases h1
  | .obj _, _, _, _, h1, _ => by cases h1
  | .scr _, _, _, _, h1, _ => by cases h1
theorem D.eqvL_py : ∀ (ds es : List D) (ps qs : List PyData), D.pyL ds = some ps → D.pyL es = some qs → D.eqvL ds es = PyData.eqvAll ps qs
  | [], [], ps, qs, h1, h2 => by cases h1; cases h2; rfl
  | [], e :: es, ps, qs, h1, h2 => by cases h1; obtain ⟨q, qs', _, _, rfl⟩ := D.pyL_cons h2; rfl
  | d :: ds, [], ps, qs, h1, h2 => by cases h2; obtain ⟨q, qs', _, _, rfl⟩ := D.pyL_cons h1; rfl
  | d :: ds, e :: es, ps, qs, h1, h2 => by
    obtain ⟨p, ps', a1, a2, rfl⟩ := D.pyL_cons h1
    obtain ⟨q, qs', b1, b2, rfl⟩ := D.pyL_cons h2
    show (D.eqv d e && D.eqvL ds es) = (PyData.eqv p q && PyData.eqvAll ps' qs')
    rw [D.eqv_py d e p q a1 b1, D.eqvL_py ds es ps' qs' a2 b2]
end
mutual
theorem Rep.dp {K : PySem.W.Frag} {F H : Hp} {θ : List Addr} (hF : ∀ a o, F a = some o → H a = some o) : ∀ {v : V} {d : D} {p : PyData}, Rep K F θ v d → d.py = some p → Dp K H v p
  | _, _, _, .non, h => by cases h; exact .non
  | _, _, _, .bl b, h => by cases h; exact .bl b
  | _, _, _, .int i, h => by cases h; exact .int i
  | _, _, _, .str x, h => by cases h; exact .str x
  | _, _, _, .tup s r, h => by obtain ⟨ps, e, rfl⟩ := D.py_tup h; exact .tup (SqT.sub hF s) (RepL.dp hF r e)
  | _, _, _, .lst s r, h => by obtain ⟨ps, e, rfl⟩ := D.py_lst h; exact .lst (SqL.of (hF _ _ s)) (RepL.dp hF r e)
  | _, _, _, .dic _ _, h => by cases h
  | _, _, _, .obj _, h => by cases h
  | _, _, _, .scr _, h => by cases h
theorem RepL.dp {K : PySem.W.Frag} {F H : Hp} {θ : List Addr} (hF : ∀ a o, F a = some o → H a = some o) : ∀ {v : List V} {d : List D} {p : List PyData}, RepL K F θ v d → D.pyL d = some p → DpAll K H v p
  | _, _, _, .nil, h => by cases h; exact .nil
  | _, _, _, .cons r rs, h => by
    obtain ⟨p, ps, e1, e2, rfl⟩ := D.pyL_cons h
    exact .cons (Rep.dp hF r e1) (RepL.dp hF rs e2)
end

/-! ## rules: the general forms -/
section
variable {X : Cx} {E : XK}
/-- what a body's context gives -/
structure Good (X : Cx) (E : XK) : Prop where
  calm : X.calm = true
  nd : X.N.Nodup
  tk : Takes X (fun c d _ H => E c d H)
theorem pe_weak {e : Expr} {t t' : TE} (h : PE X e t) (w : ∀ σ H Q, t' σ H Q → t σ H Q) : PE X e t' := ⟨fun pins s σ H Q I q => h.run pins s σ H Q I (w σ H Q q)⟩
theorem pt_weak {e : Expr} {t t' : TT} (h : PT X e t) (w : ∀ σ H Q, t' σ H Q → t σ H Q) : PT X e t' := ⟨fun pins s σ H Q I q => h.run pins s σ H Q I (w σ H Q q)⟩
theorem pa_weak {e : List Expr} {t t' : TA} (h : PA X e t) (w : ∀ σ H Q, t' σ H Q → t σ H Q) : PA X e t' := ⟨fun pos pins s σ H Q I q => h.run pos pins s σ H Q I (w σ H Q q)⟩
theorem ps_weak {e : Stmt} {t t' : TS} (h : PS X e t) (w : ∀ W σ H, t' W σ H → t W σ H) : PS X e t' := ⟨fun pins s σ H W I q => h.run pins s σ H W I (w W σ H q)⟩
theorem pss_weak {e : List Stmt} {t t' : TS} (h : PSs X e t) (w : ∀ W σ H, t' W σ H → t W σ H) : PSs X e t' := ⟨fun pins s σ H W I q => h.run pins s σ H W I (w W σ H q)⟩
abbrev RE (X : Cx) (E : XK) (e : Expr) (m : Ev → M D) : Prop := PE X e (tE X.K X.mg E m)
abbrev RN (X : Cx) (E : XK) (e : Expr) (m : Ev → M (List D)) : Prop := PE X e (tN X.K X.mg E m)
abbrev RT (X : Cx) (E : XK) (e : Expr) (m : Ev → M Bool) : Prop := PT X e (tT X.K X.mg E m)
abbrev RA (X : Cx) (E : XK) (e : List Expr) (m : Ev → M (List D)) : Prop := PA X e (tA X.K X.mg E m)

variable {a b c : Expr} {ma mb mc : Ev → M D} {pos : Pos}
/-! ### names, constants -/
def eVar (i : Nat) : Ev → M D := fun ρ => match ρ[i]? with
  | some (.v d) => .ret d
  | _ => .bad
def eC (d : D) : Ev → M D := fun _ => .ret d
theorem slot_of {K : PySem.W.Frag} {L : Addr → Prop} {g : Gw} {H : Hp} {σ : L2.St} {ρ : Ev} (en : EnvOk K L g H σ ρ) {i : Nat} {sl : Sl} (h : ρ[i]? = some sl) : ∃ sv, σ[i]? = some sv ∧ SlOk K L g H sv sl := by
  have hl : i < σ.length := by rw [en.len]; exact (List.getElem?_eq_some_iff.mp h).1
  exact ⟨σ[i], List.getElem?_eq_getElem hl, en.ok i _ _ (List.getElem?_eq_getElem hl) h⟩
theorem re_var (i : Nat) {x : Str} (hN : X.N[i]? = some x := by rfl) (hv : Vis X.env.scope x := by first | exact Or.inl rfl | exact Or.inr (Or.inl rfl) | exact Or.inr (Or.inr rfl)) (hd : (x == ("__debug__" : Str)) = false := by decide)
    (hcd : (x == ("__classdict__" : Str)) = false := by decide) : RE X E (.Name x pos) (eVar i) := by
  refine pe_weak (pe_var hN hv hd hcd) fun σ H Q ⟨g, S, ρ, L, ok, en, h⟩ => ?_
  unfold eVar at h
  split at h
  · rename_i d e
    obtain ⟨sv, h1, v, rfl, r⟩ := slot_of en e
    exact ⟨v, h1, h g H v .refl ok r⟩
  · exact h.elim
theorem re_c {e : Expr} {v : V} {d : D} (h : PE X e (tC v)) (r : ∀ F θ, Rep X.K F θ v d) : RE X E e (eC d) :=
  pe_weak h fun σ H Q ⟨g, S, ρ, L, ok, en, h⟩ => h g H v .refl ok (r _ _)
theorem re_int {i j} : RE X E (.Constant (.int i) j pos) (eC (.int i)) := re_c pe_int fun _ _ => .int i
theorem re_bl {i j} : RE X E (.Constant (.bool i) j pos) (eC (.bl i)) := re_c pe_bl fun _ _ => .bl i
theorem re_non {j} : RE X E (.Constant .none j pos) (eC .non) := re_c pe_non fun _ _ => .non
theorem re_str {i j} : RE X E (.Constant (.str i) j pos) (eC (.str i)) := re_c pe_str fun _ _ => .str i
/-- a constant of the module -/
theorem re_glob {x : Str} {v : V} {u : Value} {d : D} (hg : Gl X x) (hm : X.mg x = some u) (r : RelV v u) (rp : ∀ F θ, Rep X.K F θ v d) (hd : (x == ("__debug__" : Str)) = false := by decide) : RE X E (.Name x pos) (eC d) := re_c (pe_glob hg hm r hd) rp

/-! ### two parts in a row -/
theorem two {ta tb : TE} {ma mb : Ev → M D} (hta : ∀ σ H Q, tE X.K X.mg E ma σ H Q → ta σ H Q) (htb : ∀ σ H Q, tE X.K X.mg E mb σ H Q → tb σ H Q) {om : D → D → M D} {r : R2} (hr : ∀ x y H Q, rD2 X.K X.mg E om x y H Q → r x y H Q) {σ : L2.St} {H : Hp} {Q : VK}
    (h : tE X.K X.mg E (fun ρ => ma ρ >>= fun x => mb ρ >>= fun y => om x y) σ H Q) : ta σ H fun x H1 => tb σ H1 fun y H2 => r x y H2 Q := by
  obtain ⟨g, S, ρ, L, ok, en, h⟩ := h
  refine hta _ _ _ ⟨g, S, ρ, L, ok, en, wp_mono (wp_bind.mp h) (fun d1 S1 h1 g1 H1 v1 gr1 ok1 r1 => htb _ _ _ ⟨g1, S1, ρ, L, ok1, en.grow gr1, ?_⟩) fun _ _ z => z⟩
  refine wp_mono (wp_bind.mp h1) (fun d2 S2 h2 g2 H2 v2 gr2 ok2 r2 => hr _ _ _ _ ⟨g2, S2, d1, d2, ok2, gr2.rep r1, r2, ?_⟩) fun _ _ z => z.grow gr1
  exact wp_mono h2 (fun _ _ z => z.grow (gr1.trans gr2)) fun _ _ z => z.grow (gr1.trans gr2)
def eBin (om : D → D → M D) (ma mb : Ev → M D) : Ev → M D := fun ρ => ma ρ >>= fun x => mb ρ >>= fun y => om x y
theorem re_bin {op : Operator} {om : D → D → M D} (ho : OpR X (binaryOp op) (rD2 X.K X.mg E om)) (ha : RE X E a ma) (hb : RE X E b mb) : RE X E (.BinOp a op b pos) (eBin om ma mb) :=
  pe_weak (pe_op ho ha hb) fun σ H Q h => two (fun _ _ _ z => z) (fun _ _ _ z => z) (fun _ _ _ _ z => z) h
theorem re_cmp {op : CmpOp} {om : D → D → M D} (ho : OpR X (compareOp op) (rD2 X.K X.mg E om)) (ha : RE X E a ma) (hb : RE X E b mb) (hm : behindInMarks op b = false := by first | exact nomark _ | rfl) : RE X E (.Compare a [op] [b] pos) (eBin om ma mb) :=
  pe_weak (pe_cmpR ho ha hb hm) fun σ H Q h => two (fun _ _ _ z => z) (fun _ _ _ z => z) (fun _ _ _ _ z => z) h
def eUn (om : D → M D) (ma : Ev → M D) : Ev → M D := fun ρ => ma ρ >>= om
theorem one {ta : TE} {ma : Ev → M D} (hta : ∀ σ H Q, tE X.K X.mg E ma σ H Q → ta σ H Q) {om : D → M D} {r : V → Hp → VK → Prop} (hr : ∀ x H Q, rD1 X.K X.mg E om x H Q → r x H Q) {σ : L2.St} {H : Hp} {Q : VK}
    (h : tE X.K X.mg E (eUn om ma) σ H Q) : ta σ H fun x H1 => r x H1 Q := by
  obtain ⟨g, S, ρ, L, ok, en, h⟩ := h
  refine hta _ _ _ ⟨g, S, ρ, L, ok, en, wp_mono (wp_bind.mp h) (fun d1 S1 h1 g1 H1 v1 gr1 ok1 r1 => hr _ _ _ ⟨g1, S1, d1, ok1, r1, ?_⟩) fun _ _ z => z⟩
  exact wp_mono h1 (fun _ _ z => z.grow gr1) fun _ _ z => z.grow gr1
theorem re_un {op : UnaryOp} {om : D → M D} (ho : UnR X (unaryOp op) (rD1 X.K X.mg E om)) (ha : RE X E a ma) : RE X E (.UnaryOp op a pos) (eUn om ma) :=
  pe_weak (pe_un ho ha) fun σ H Q h => one (fun _ _ _ z => z) (fun _ _ _ z => z) h

/-! ### tests -/
/-- a value that is True or False, as a test -/
def asB : D → M Bool
  | .bl b => .ret b
  | _ => .bad
def tV (ma : Ev → M D) : Ev → M Bool := fun ρ => ma ρ >>= asB
theorem rt_val (ha : RE X E a ma) (he : ∀ whole, isTrue a X.env whole = (do let v ← whole; standAt a.pos; holding [v] (truthy v)) := by intro _; rfl) : RT X E a (tV ma) := by
  refine pt_weak (pt_val ha he) fun σ H Q ⟨g, S, ρ, L, ok, en, h⟩ => ⟨g, S, ρ, L, ok, en, ?_⟩
  refine wp_mono (wp_bind.mp h) (fun d S1 h1 g1 H1 v gr ok1 r => ?_) fun _ _ z => z
  cases d with
  | bl b => cases r; exact ⟨b, rfl, h1 g1 H1 gr ok1⟩
  | _ => exact h1.elim
/-- truth -/
def tru : D → M Bool
  | .non => .ret false
  | .bl b => .ret b
  | .int i => .ret (i != 0)
  | .str x => if x.length ≤ sizeLine then .ret (x.length != 0) else .bad
  | .tup xs => .ret (!xs.isEmpty)
  | .lst xs => .ret (!xs.isEmpty)
  | .dic xs => .ret (!xs.isEmpty)
  | .obj _ => .bad
  | .scr _ => .bad
def tTru (ma : Ev → M D) : Ev → M Bool := fun ρ => ma ρ >>= tru
theorem RepL.emp {K : PySem.W.Frag} {F : Hp} {θ : List Addr} {vs : List V} {ds : List D} (r : RepL K F θ vs ds) : vs.isEmpty = ds.isEmpty := by cases r <;> rfl
theorem RepK.emp {K : PySem.W.Frag} {F : Hp} {θ : List Addr} {vs : List (Key × V)} {ds : List (D × D)} (r : RepK K F θ vs ds) : vs.isEmpty = ds.isEmpty := by cases r <;> rfl
theorem rt_tru (ha : RE X E a ma) (he : ∀ whole, isTrue a X.env whole = (do let v ← whole; standAt a.pos; holding [v] (truthy v)) := by intro _; rfl) : RT X E a (tTru ma) := by
  refine pt_weak (pt_truth ha he) fun σ H Q ⟨g, S, ρ, L, ok, en, h⟩ => ⟨g, S, ρ, L, ok, en, ?_⟩
  refine wp_mono (wp_bind.mp h) (fun d S1 h1 g1 H1 v gr ok1 r => ?_) fun _ _ z => z
  cases r with
  | non => exact ⟨false, rfl, h1 g1 H1 gr ok1⟩
  | bl b => exact ⟨b, rfl, h1 g1 H1 gr ok1⟩
  | int i => exact ⟨_, rfl, h1 g1 H1 gr ok1⟩
  | str x =>
    have h1 : wp (if x.length ≤ sizeLine then M.ret (x.length != 0) else .bad) S1 (BP X.K g H Q) (XP X.K X.mg g H E) := h1
    by_cases hz : x.length ≤ sizeLine
    · rw [if_pos hz] at h1
      refine ⟨_, ⟨hz, rfl⟩, ?_⟩
      have e : ((x.length : Int) != 0) = (x.length != 0) := by
        rw [Bool.eq_iff_iff]; simp
      rw [e]; exact h1 g1 H1 gr ok1
    · rw [if_neg hz] at h1; exact h1.elim
  | tup s r => exact ⟨_, .inr (.inl ⟨_, SqT.sub ok1.sub s, rfl⟩), by rw [r.emp]; exact h1 g1 H1 gr ok1⟩
  | lst s r => exact ⟨_, .inl ⟨_, SqL.of (ok1.sub _ _ s), rfl⟩, by rw [r.emp]; exact h1 g1 H1 gr ok1⟩
  | dic s r => exact ⟨_, .inr (.inr ⟨_, ok1.sub _ _ s, rfl⟩), by rw [r.emp]; exact h1 g1 H1 gr ok1⟩
  | obj _ => exact h1.elim
  | scr _ => exact h1.elim
variable {tma tmb : Ev → M Bool} {rest : List Expr}
def tAndM (a b : Ev → M Bool) : Ev → M Bool := fun ρ => a ρ >>= fun c => match c with
  | true => b ρ
  | false => .ret false
def tOrM (a b : Ev → M Bool) : Ev → M Bool := fun ρ => a ρ >>= fun c => match c with
  | true => .ret true
  | false => b ρ
def tNotM (a : Ev → M Bool) : Ev → M Bool := fun ρ => a ρ >>= fun c => .ret (!c)
abbrev RW (X : Cx) (E : XK) (e : Expr) (m : Ev → M Bool) : Prop := PW X e (tT X.K X.mg E m)
theorem pw_weak {e : Expr} {t t' : TT} (h : PW X e t) (w : ∀ σ H Q, t' σ H Q → t σ H Q) : PW X e t' := ⟨fun wh pins s σ H Q I q => h.run wh pins s σ H Q I (w σ H Q q)⟩
theorem rw_and1 (ha : RT X E a tma) : RW X E (.BoolOp .And [a] pos) tma := pw_and1 ha
theorem rw_or1 (ha : RT X E a tma) : RW X E (.BoolOp .Or [a] pos) tma := pw_or1 ha
theorem rw_and (ha : RT X E a tma) (hb : RW X E (.BoolOp .And (b :: rest) pos) tmb) : RW X E (.BoolOp .And (a :: b :: rest) pos) (tAndM tma tmb) := by
  refine pw_weak (pw_and ha hb) fun σ H Q ⟨g, S, ρ, L, ok, en, h⟩ => ⟨g, S, ρ, L, ok, en, ?_⟩
  refine wp_mono (wp_bind.mp h) (fun c S1 h1 g1 H1 gr ok1 => ?_) fun _ _ z => z
  cases c with
  | true =>
    rw [if_pos rfl]
    exact ⟨g1, S1, ρ, L, ok1, en.grow gr, wp_mono h1 (fun _ _ z => z.grow gr) fun _ _ z => z.grow gr⟩
  | false => rw [if_neg (by decide)]; exact h1 g1 H1 gr ok1
theorem rw_or (ha : RT X E a tma) (hb : RW X E (.BoolOp .Or (b :: rest) pos) tmb) : RW X E (.BoolOp .Or (a :: b :: rest) pos) (tOrM tma tmb) := by
  refine pw_weak (pw_or ha hb) fun σ H Q ⟨g, S, ρ, L, ok, en, h⟩ => ⟨g, S, ρ, L, ok, en, ?_⟩
  refine wp_mono (wp_bind.mp h) (fun c S1 h1 g1 H1 gr ok1 => ?_) fun _ _ z => z
  cases c with
  | false =>
    rw [if_neg (by decide)]
    exact ⟨g1, S1, ρ, L, ok1, en.grow gr, wp_mono h1 (fun _ _ z => z.grow gr) fun _ _ z => z.grow gr⟩
  | true => rw [if_pos rfl]; exact h1 g1 H1 gr ok1
theorem rt_not (ha : RT X E a tma) : RT X E (.UnaryOp .Not a pos) (tNotM tma) := by
  refine pt_weak (pt_not ha) fun σ H Q ⟨g, S, ρ, L, ok, en, h⟩ => ⟨g, S, ρ, L, ok, en, ?_⟩
  exact wp_mono (wp_bind.mp h) (fun c S1 h1 => h1) fun _ _ z => z
theorem RW.rt {e : Expr} (h : RW X E e tma) : RT X E e tma := PW.pt h
/-- and, or, not as values -/
def eAnd (a b : Ev → M D) : Ev → M D := fun ρ => a ρ >>= fun c => match c with
  | .bl true => b ρ
  | .bl false => .ret (.bl false)
  | _ => .bad
def eOr (a b : Ev → M D) : Ev → M D := fun ρ => a ρ >>= fun c => match c with
  | .bl true => .ret (.bl true)
  | .bl false => b ρ
  | _ => .bad
def notD : D → M D
  | .bl b => .ret (.bl (!b))
  | _ => .bad
def eNot (a : Ev → M D) : Ev → M D := fun ρ => a ρ >>= notD
theorem re_one {op} (ha : RE X E a ma) : RE X E (.BoolOp op [a] pos) ma := pe_one ha
theorem re_and (ha : RE X E a ma) (hb : RE X E (.BoolOp .And (b :: rest) pos) mb) : RE X E (.BoolOp .And (a :: b :: rest) pos) (eAnd ma mb) := by
  refine pe_weak (pe_and ha hb) fun σ H Q ⟨g, S, ρ, L, ok, en, h⟩ => ⟨g, S, ρ, L, ok, en, ?_⟩
  refine wp_mono (wp_bind.mp h) (fun c S1 h1 g1 H1 v gr ok1 r => ?_) fun _ _ z => z
  cases c with
  | bl b =>
    cases r
    refine ⟨b, rfl, ?_⟩
    cases b with
    | true =>
      rw [if_pos rfl]
      exact ⟨g1, S1, ρ, L, ok1, en.grow gr, wp_mono h1 (fun _ _ z => z.grow gr) fun _ _ z => z.grow gr⟩
    | false => rw [if_neg (by decide)]; exact h1 g1 H1 _ gr ok1 (.bl false)
  | _ => exact h1.elim
theorem re_or (ha : RE X E a ma) (hb : RE X E (.BoolOp .Or (b :: rest) pos) mb) : RE X E (.BoolOp .Or (a :: b :: rest) pos) (eOr ma mb) := by
  refine pe_weak (pe_or ha hb) fun σ H Q ⟨g, S, ρ, L, ok, en, h⟩ => ⟨g, S, ρ, L, ok, en, ?_⟩
  refine wp_mono (wp_bind.mp h) (fun c S1 h1 g1 H1 v gr ok1 r => ?_) fun _ _ z => z
  cases c with
  | bl b =>
    cases r
    refine ⟨b, rfl, ?_⟩
    cases b with
    | false =>
      rw [if_neg (by decide)]
      exact ⟨g1, S1, ρ, L, ok1, en.grow gr, wp_mono h1 (fun _ _ z => z.grow gr) fun _ _ z => z.grow gr⟩
    | true => rw [if_pos rfl]; exact h1 g1 H1 _ gr ok1 (.bl true)
  | _ => exact h1.elim
theorem re_not (ha : RE X E a ma) : RE X E (.UnaryOp .Not a pos) (eNot ma) := by
  refine pe_weak (pe_not ha) fun σ H Q ⟨g, S, ρ, L, ok, en, h⟩ => ⟨g, S, ρ, L, ok, en, ?_⟩
  refine wp_mono (wp_bind.mp h) (fun c S1 h1 g1 H1 v gr ok1 r => ?_) fun _ _ z => z
  cases c with
  | bl b => cases r; exact ⟨b, rfl, h1 g1 H1 _ gr ok1 (.bl _)⟩
  | _ => exact h1.elim
def eIf (t : Ev → M Bool) (a b : Ev → M D) : Ev → M D := fun ρ => t ρ >>= fun c => match c with
  | true => a ρ
  | false => b ρ
theorem re_if (hc : RT X E c tma) (ha : RE X E a ma) (hb : RE X E b mb) : RE X E (.IfExp c a b pos) (eIf tma ma mb) := by
  refine pe_weak (pe_ifExp hc ha hb) fun σ H Q ⟨g, S, ρ, L, ok, en, h⟩ => ⟨g, S, ρ, L, ok, en, ?_⟩
  refine wp_mono (wp_bind.mp h) (fun d S1 h1 g1 H1 gr ok1 => ?_) fun _ _ z => z
  cases d with
  | true => rw [if_pos rfl]; exact ⟨g1, S1, ρ, L, ok1, en.grow gr, wp_mono h1 (fun _ _ z => z.grow gr) fun _ _ z => z.grow gr⟩
  | false => rw [if_neg (by decide)]; exact ⟨g1, S1, ρ, L, ok1, en.grow gr, wp_mono h1 (fun _ _ z => z.grow gr) fun _ _ z => z.grow gr⟩
/-! ### argument lists, displays -/
def aNil : Ev → M (List D) := fun _ => .ret []
def aCons (a : Ev → M D) (r : Ev → M (List D)) : Ev → M (List D) := fun ρ => a ρ >>= fun x => r ρ >>= fun xs => .ret (x :: xs)
variable {es : List Expr} {mas : Ev → M (List D)}
theorem ra_nil : RA X E [] aNil := pa_weak pa_nil fun σ H Q ⟨g, S, ρ, L, ok, en, h⟩ => h g H [] .refl ok .nil
theorem ra_cons (ha : RE X E a ma) (hr : RA X E es mas) (hs : starEach (a :: es) X.env = (false, eval a X.env) :: starEach es X.env := by rfl) : RA X E (a :: es) (aCons ma mas) := by
  refine pa_weak (pa_cons ha hr hs) fun σ H Q ⟨g, S, ρ, L, ok, en, h⟩ => ⟨g, S, ρ, L, ok, en, ?_⟩
  refine wp_mono (wp_bind.mp h) (fun d S1 h1 g1 H1 v gr ok1 r => ⟨g1, S1, ρ, L, ok1, en.grow gr, ?_⟩) fun _ _ z => z
  refine wp_mono (wp_bind.mp h1) (fun ds S2 h2 g2 H2 vs gr2 ok2 rs => ?_) fun _ _ z => z.grow gr
  exact h2 g2 H2 _ (gr.trans gr2) ok2 (.cons (gr2.rep r) rs)
def eTup (mas : Ev → M (List D)) : Ev → M D := fun ρ => mas ρ >>= fun ds => if ds.length ≤ sizeLine then .ret (.tup ds) else .bad
theorem re_tup {k} (h : RA X E es mas) : RE X E (.Tuple es k pos) (eTup mas) := by
  refine pe_weak (pe_tup h) fun σ H Q ⟨g, S, ρ, L, ok, en, h⟩ => ⟨g, S, ρ, L, ok, en, ?_⟩
  refine wp_mono (wp_bind.mp h) (fun ds S1 h1 g1 H1 vs gr ok1 r => ?_) fun _ _ z => z
  by_cases hz : ds.length ≤ sizeLine
  · rw [if_pos hz] at h1
    refine ⟨by rw [r.length]; exact hz, fun p hp => ?_⟩
    obtain ⟨ok2, gr2⟩ := ok1.laid (o := .tup vs) hp
    exact h1 _ _ _ (gr.trans gr2) ok2 (.tup (SqT.of upd_same) (gr2.repL r))
  · rw [if_neg hz] at h1; exact h1.elim
/-- a list display: new -/
def nLst (mas : Ev → M (List D)) : Ev → M (List D) := fun ρ => mas ρ >>= fun ds => if ds.length ≤ sizeLine then .ret ds else .bad
theorem rn_lst (h : RA X E es mas) : RN X E (.List es pos) (nLst mas) := by
  refine pe_weak (pe_lst h) fun σ H Q ⟨g, S, ρ, L, ok, en, h⟩ => ⟨g, S, ρ, L, ok, en, ?_⟩
  refine wp_mono (wp_bind.mp h) (fun ds S1 h1 g1 H1 vs gr ok1 r => ?_) fun _ _ z => z
  by_cases hz : ds.length ≤ sizeLine
  · rw [if_pos hz] at h1
    refine ⟨by rw [r.length]; exact hz, fun p hp => ?_⟩
    obtain ⟨ok2, gr2, hF, hθ⟩ := ok1.made (o := .lst vs) hp
    exact h1 _ _ _ _ (gr.trans gr2) ok2 (gr.dom _ hp) upd_same hF hθ r
  · rw [if_neg hz] at h1; exact h1.elim
/-- a new list as a value -/
def eN (m : Ev → M (List D)) : Ev → M D := fun ρ => m ρ >>= fun ds => .ret (.lst ds)
theorem re_n {m : Ev → M (List D)} (h : RN X E a m) : RE X E a (eN m) := by
  refine pe_weak h fun σ H Q ⟨g, S, ρ, L, ok, en, h⟩ => ⟨g, S, ρ, L, ok, en, ?_⟩
  exact wp_mono (wp_bind.mp h) (fun ds S1 h1 => NP.toV h1) fun _ _ z => z
/-! ### calls of built-ins -/
def eCL (f : List D → M D) (mas : Ev → M (List D)) : Ev → M D := fun ρ => mas ρ >>= f
def nCL (f : List D → M (List D)) (mas : Ev → M (List D)) : Ev → M (List D) := fun ρ => mas ρ >>= f
theorem many {ta : TA} {ma : Ev → M (List D)} (hta : ∀ σ H Q, tA X.K X.mg E ma σ H Q → ta σ H Q) {om : List D → M D} {σ : L2.St} {H : Hp} {Q : VK} (h : tE X.K X.mg E (eCL om ma) σ H Q) : ta σ H fun x H1 => rDL X.K X.mg E om x H1 Q := by
  obtain ⟨g, S, ρ, L, ok, en, h⟩ := h
  refine hta _ _ _ ⟨g, S, ρ, L, ok, en, wp_mono (wp_bind.mp h) (fun d1 S1 h1 g1 H1 v1 gr1 ok1 r1 => ⟨g1, S1, d1, ok1, r1, ?_⟩) fun _ _ z => z⟩
  exact wp_mono h1 (fun _ _ z => z.grow gr1) fun _ _ z => z.grow gr1
theorem manyN {ta : TA} {ma : Ev → M (List D)} (hta : ∀ σ H Q, tA X.K X.mg E ma σ H Q → ta σ H Q) {om : List D → M (List D)} {σ : L2.St} {H : Hp} {Q : VK} (h : tN X.K X.mg E (nCL om ma) σ H Q) : ta σ H fun x H1 => rDN X.K X.mg E om x H1 Q := by
  obtain ⟨g, S, ρ, L, ok, en, h⟩ := h
  refine hta _ _ _ ⟨g, S, ρ, L, ok, en, wp_mono (wp_bind.mp h) (fun d1 S1 h1 g1 H1 v1 gr1 ok1 r1 => ⟨g1, S1, d1, ok1, r1, ?_⟩) fun _ _ z => z⟩
  exact wp_mono h1 (fun _ _ z => z.grow gr1) fun _ _ z => z.grow gr1
variable {x : Str} {p : Pos} {id T : String} {om : List D → M D} {on : List D → M (List D)}
theorem re_callB (hc : CallR X (.builtin id) (rDL X.K X.mg E om)) (hg : Gl X x) (hm : X.mg x = none) (hv : bootBuiltins x = some (.builtin id)) (ha : RA X E (a :: es) mas) (hn : x ≠ "__name__" := by decide) (hdb : (x == ("__debug__" : Str)) = false := by decide)
    (he : starEach (a :: es) X.env = (false, eval a X.env) :: starEach es X.env := by rfl) (hpl : (backTo pos (starEach es X.env)).any (·.1) = false := by rfl) : RE X E (.Call (.Name x p) (a :: es) [] pos) (eCL om mas) :=
  pe_weak (pe_callB hc hg hm hv ha hn hdb he hpl) fun σ H Q h => many (fun _ _ _ z => z) h
theorem rn_callB (hc : CallR X (.builtin id) (rDN X.K X.mg E on)) (hg : Gl X x) (hm : X.mg x = none) (hv : bootBuiltins x = some (.builtin id)) (ha : RA X E (a :: es) mas) (hn : x ≠ "__name__" := by decide) (hdb : (x == ("__debug__" : Str)) = false := by decide)
    (he : starEach (a :: es) X.env = (false, eval a X.env) :: starEach es X.env := by rfl) (hpl : (backTo pos (starEach es X.env)).any (·.1) = false := by rfl) : RN X E (.Call (.Name x p) (a :: es) [] pos) (nCL on mas) :=
  pe_weak (pe_callB hc hg hm hv ha hn hdb he hpl) fun σ H Q h => manyN (fun _ _ _ z => z) h
theorem re_callTy (hc : CallR X (.type T) (rDL X.K X.mg E om)) (hg : Gl X x) (hm : X.mg x = none) (hv : bootBuiltins x = some (.type T)) (ha : RA X E (a :: es) mas) (hn : x ≠ "__name__" := by decide) (hdb : (x == ("__debug__" : Str)) = false := by decide)
    (he : starEach (a :: es) X.env = (false, eval a X.env) :: starEach es X.env := by rfl) (hpl : (backTo pos (starEach es X.env)).any (·.1) = false := by rfl) : RE X E (.Call (.Name x p) (a :: es) [] pos) (eCL om mas) :=
  pe_weak (pe_callTy hc hg hm hv ha hn hdb he hpl) fun σ H Q h => many (fun _ _ _ z => z) h
theorem rn_callTy (hc : CallR X (.type T) (rDN X.K X.mg E on)) (hg : Gl X x) (hm : X.mg x = none) (hv : bootBuiltins x = some (.type T)) (ha : RA X E (a :: es) mas) (hn : x ≠ "__name__" := by decide) (hdb : (x == ("__debug__" : Str)) = false := by decide)
    (he : starEach (a :: es) X.env = (false, eval a X.env) :: starEach es X.env := by rfl) (hpl : (backTo pos (starEach es X.env)).any (·.1) = false := by rfl) : RN X E (.Call (.Name x p) (a :: es) [] pos) (nCL on mas) :=
  pe_weak (pe_callTy hc hg hm hv ha hn hdb he hpl) fun σ H Q h => manyN (fun _ _ _ z => z) h
end

/-! ## operators -/
def iD : D → Option Int
  | .int i => some i
  | _ => none
def addM : D → D → M D
  | .int i, .int j => .ret (.int (i + j))
  | .str a, .str b => if a.length + b.length ≤ sizeLine then .ret (.str (a ++ b)) else .bad
  | .tup a, .tup b => if a.length + b.length ≤ sizeLine then .ret (.tup (a ++ b)) else .bad
  | .lst a, .lst b => if a.length + b.length ≤ sizeLine then .ret (.lst (a ++ b)) else .bad
  | _, _ => .bad
def subM : D → D → M D
  | .int i, .int j => .ret (.int (i - j))
  | _, _ => .bad
def mulM : D → D → M D
  | .int i, .int j => if (-(2 ^ 64) < i ∧ i < 2 ^ 64) ∨ (-(2 ^ 64) < j ∧ j < 2 ^ 64) then .ret (.int (i * j)) else .bad
  | .tup a, .int k => if a ≠ [] ∧ 2 ≤ k ∧ k ≤ 1000 ∧ a.length ≤ 1000 then .ret (.tup (List.replicate k.toNat a).flatten) else .bad
  | _, _ => .bad
def modM : D → D → M D
  | .int i, .int j => if j ≠ 0 then .ret (.int (i.fmod j)) else .bad
  | _, _ => .bad
def fdivM : D → D → M D
  | .int i, .int j => if j ≠ 0 ∧ j.natAbs < 1073741824 then .ret (.int (i.fdiv j)) else .bad
  | _, _ => .bad
def powM : D → D → M D
  | .int i, .int j => if 0 ≤ j ∧ j ≤ 1000000 ∧ i.natAbs < 2 ^ 64 then .ret (.int (i ^ j.toNat)) else .bad
  | _, _ => .bad
def negM : D → M D
  | .int i => .ret (.int (-i))
  | _ => .bad
def scalD : D → D → Bool
  | .non, .non => true | .non, .int _ => true | .int _, .non => true | .non, .bl _ => true | .bl _, .non => true | .non, .str _ => true | .str _, .non => true
  | .int _, .int _ => true | .bl _, .bl _ => true | .str _, .str _ => true
  | .int _, .str _ => true | .str _, .int _ => true | .bl _, .str _ => true | .str _, .bl _ => true
  | _, _ => false
def eqM (d e : D) : M D := if scalD d e || (d.sh && e.sh) then .ret (.bl (D.eqv d e)) else .bad
def neM (d e : D) : M D := if scalD d e || (d.sh && e.sh) then .ret (.bl (!D.eqv d e)) else .bad
def ltM : D → D → M D
  | .int i, .int j => .ret (.bl (decide (i < j)))
  | _, _ => .bad
def leM : D → D → M D
  | .int i, .int j => .ret (.bl (decide (i ≤ j)))
  | _, _ => .bad
def gtM : D → D → M D
  | .int i, .int j => .ret (.bl (decide (j < i)))
  | _, _ => .bad
def geM : D → D → M D
  | .int i, .int j => .ret (.bl (decide (j ≤ i)))
  | _, _ => .bad
section
variable {X : Cx} {E : XK}
theorem rep_ref {K : PySem.W.Frag} {F : Hp} {θ : List Addr} {x : V} {xs : List D} (r : Rep K F θ x (.tup xs)) : ∃ a vs, x = .ref a ∧ SqT K F a vs ∧ RepL K F θ vs xs := by cases r with | tup s r => exact ⟨_, _, rfl, s, r⟩
theorem rep_refL {K : PySem.W.Frag} {F : Hp} {θ : List Addr} {x : V} {xs : List D} (r : Rep K F θ x (.lst xs)) : ∃ a vs, x = .ref a ∧ F a = some (.lst vs) ∧ RepL K F θ vs xs := by cases r with | lst s r => exact ⟨_, _, rfl, s, r⟩
theorem o_add : OpR X (binaryOp .Add) (rD2 X.K X.mg E addM) := by
  intro pins s σ H x y v u Q I rx ry ⟨g, S, d, e, ok, r1, r2, h⟩
  cases d with
  | int i =>
    cases e with
    | int j => cases r1; cases r2; exact op_add pins s σ H _ _ v u Q I rx ry ⟨i, j, rfl, rfl, h g H _ .refl ok (.int _)⟩
    | _ => exact h.elim
  | str i =>
    cases e with
    | str j =>
      cases r1; cases r2
      by_cases hz : i.length + j.length ≤ sizeLine
      · have h : wp (if i.length + j.length ≤ sizeLine then M.ret (D.str (i ++ j)) else .bad) S (VP X.K g H Q) (XP X.K X.mg g H E) := h
        rw [if_pos hz] at h
        exact op_add_str pins s σ H _ _ v u Q I rx ry ⟨i, j, rfl, rfl, hz, h g H _ .refl ok (.str _)⟩
      · have h : wp (if i.length + j.length ≤ sizeLine then M.ret (D.str (i ++ j)) else .bad) S (VP X.K g H Q) (XP X.K X.mg g H E) := h
        rw [if_neg hz] at h; exact h.elim
    | _ => exact h.elim
  | tup xs =>
    cases e with
    | tup ys =>
      obtain ⟨a, vs, rfl, s1, q1⟩ := rep_ref r1
      obtain ⟨b, ws, rfl, s2, q2⟩ := rep_ref r2
      have h : wp (if xs.length + ys.length ≤ sizeLine then M.ret (D.tup (xs ++ ys)) else .bad) S (VP X.K g H Q) (XP X.K X.mg g H E) := h
      by_cases hz : xs.length + ys.length ≤ sizeLine
      · rw [if_pos hz] at h
        refine op_catA pins s σ H _ _ v u Q I rx ry ⟨a, b, vs, ws, rfl, rfl, SqT.sub ok.sub s1, SqT.sub ok.sub s2, by rw [q1.length, q2.length]; exact hz, fun e => ?_, fun n e => ?_, fun n1 n2 p hp => ?_⟩
        · have e' : xs = [] := by cases q1 with | nil => rfl | cons _ _ => cases e
          subst e'
          exact h g H _ .refl ok (by rw [List.nil_append]; exact r2)
        · have e' : ys = [] := by cases q2 with | nil => rfl | cons _ _ => cases e
          subst e'
          exact h g H _ .refl ok (by rw [List.append_nil]; exact r1)
        · obtain ⟨ok2, gr2⟩ := ok.laid (o := .tup (vs ++ ws)) hp
          exact h _ _ _ gr2 ok2 (.tup (SqT.of upd_same) (gr2.repL (q1.append q2)))
      · rw [if_neg hz] at h; exact h.elim
    | _ => exact h.elim
  | lst xs =>
    cases e with
    | lst ys =>
      obtain ⟨a, vs, rfl, s1, q1⟩ := rep_refL r1
      obtain ⟨b, ws, rfl, s2, q2⟩ := rep_refL r2
      have h : wp (if xs.length + ys.length ≤ sizeLine then M.ret (D.lst (xs ++ ys)) else .bad) S (VP X.K g H Q) (XP X.K X.mg g H E) := h
      by_cases hz : xs.length + ys.length ≤ sizeLine
      · rw [if_pos hz] at h
        refine op_cat pins s σ H _ _ v u Q I rx ry ⟨a, b, vs, ws, rfl, rfl, ok.sub _ _ s1, ok.sub _ _ s2, by rw [q1.length, q2.length]; exact hz, fun p hp => ?_⟩
        obtain ⟨ok2, gr2⟩ := ok.laid (o := .lst (vs ++ ws)) hp
        exact h _ _ _ gr2 ok2 (.lst upd_same (gr2.repL (q1.append q2)))
      · rw [if_neg hz] at h; exact h.elim
    | _ => exact h.elim
  | _ => exact h.elim
end
end F
namespace F
open PySem PySem.Spec PyProof.Rows L2
theorem wp_guard {α : Type} {c : Prop} [Decidable c] {m : M α} {S : List OS} {Q : α → List OS → Prop} {E : Ex → List OS → Prop} (h : wp (if c then m else .bad) S Q E) : c ∧ wp m S Q E := by
  by_cases hc : c
  · rw [if_pos hc] at h; exact ⟨hc, h⟩
  · rw [if_neg hc] at h; exact h.elim
section
variable {X : Cx} {E : XK}
theorem o_sub : OpR X (binaryOp .Sub) (rD2 X.K X.mg E subM) := by
  intro pins s σ H x y v u Q I rx ry ⟨g, S, d, e, ok, r1, r2, h⟩
  cases d with
  | int i =>
    cases e with
    | int j => cases r1; cases r2; exact op_sub pins s σ H _ _ v u Q I rx ry ⟨i, j, rfl, rfl, h g H _ .refl ok (.int _)⟩
    | _ => exact h.elim
  | _ => exact h.elim
theorem o_mul : OpR X (binaryOp .Mult) (rD2 X.K X.mg E mulM) := by
  intro pins s σ H x y v u Q I rx ry ⟨g, S, d, e, ok, r1, r2, h⟩
  cases d with
  | int i =>
    cases e with
    | int j =>
      cases r1; cases r2
      obtain ⟨hz, h⟩ := wp_guard h
      exact op_mul pins s σ H _ _ v u Q I rx ry ⟨i, j, rfl, rfl, hz, h g H _ .refl ok (.int _)⟩
    | _ => exact h.elim
  | tup xs =>
    cases e with
    | int k =>
      obtain ⟨⟨h1, h2, h3, h4⟩, h⟩ := wp_guard h
      obtain ⟨a, vs, rfl, s1, q1⟩ := rep_ref r1
      cases r2
      refine op_repT pins s σ H _ _ v u Q I rx ry ⟨a, k, vs, rfl, rfl, SqT.sub ok.sub s1, fun e => ?_, h2, h3, by rw [q1.length]; exact h4, fun p hp => ?_⟩
      · subst e; cases q1; exact h1 rfl
      · obtain ⟨ok2, gr2⟩ := ok.laid (o := .tup (List.replicate k.toNat vs).flatten) hp
        refine h _ _ _ gr2 ok2 (.tup (SqT.of upd_same) (gr2.repL ?_))
        generalize k.toNat = n
        induction n with
        | zero => exact .nil
        | succ n ih => rw [List.replicate_succ, List.replicate_succ, List.flatten_cons, List.flatten_cons]; exact q1.append ih
    | _ => exact h.elim
  | _ => exact h.elim
theorem o_mod : OpR X (binaryOp .Mod) (rD2 X.K X.mg E modM) := by
  intro pins s σ H x y v u Q I rx ry ⟨g, S, d, e, ok, r1, r2, h⟩
  cases d with
  | int i =>
    cases e with
    | int j =>
      cases r1; cases r2
      obtain ⟨hz, h⟩ := wp_guard h
      exact op_modN pins s σ H _ _ v u Q I rx ry ⟨i, j, rfl, rfl, hz, h g H _ .refl ok (.int _)⟩
    | _ => exact h.elim
  | _ => exact h.elim
theorem o_fdiv : OpR X (binaryOp .FloorDiv) (rD2 X.K X.mg E fdivM) := by
  intro pins s σ H x y v u Q I rx ry ⟨g, S, d, e, ok, r1, r2, h⟩
  cases d with
  | int i =>
    cases e with
    | int j =>
      cases r1; cases r2
      obtain ⟨hz, h⟩ := wp_guard h
      exact op_fdivN pins s σ H _ _ v u Q I rx ry ⟨i, j, rfl, rfl, hz, h g H _ .refl ok (.int _)⟩
    | _ => exact h.elim
  | _ => exact h.elim
theorem o_pow : OpR X (binaryOp .Pow) (rD2 X.K X.mg E powM) := by
  intro pins s σ H x y v u Q I rx ry ⟨g, S, d, e, ok, r1, r2, h⟩
  cases d with
  | int i =>
    cases e with
    | int j =>
      cases r1; cases r2
      obtain ⟨hz, h⟩ := wp_guard h
      exact op_pow pins s σ H _ _ v u Q I rx ry ⟨i, j, rfl, rfl, hz, h g H _ .refl ok (.int _)⟩
    | _ => exact h.elim
  | _ => exact h.elim
theorem u_neg : UnR X (unaryOp .USub) (rD1 X.K X.mg E negM) := by
  intro pins s σ H x v Q I rx ⟨g, S, d, ok, r1, h⟩
  cases d with
  | int i => cases r1; exact un_neg pins s σ H _ v Q I rx ⟨i, rfl, h g H _ .refl ok (.int _)⟩
  | _ => exact h.elim
theorem scal_rep {K : PySem.W.Frag} {F : Hp} {θ : List Addr} {x y : V} {d e : D} (r1 : Rep K F θ x d) (r2 : Rep K F θ y e) (h : scalD d e = true) : scal x y = true ∧ decide (x = y) = D.eqv d e := by
  cases r1 <;> cases r2 <;> first
    | (exact absurd (show false = true from h) Bool.false_ne_true)
    | (refine ⟨rfl, ?_⟩; show decide _ = false; exact decide_eq_false (by intro z; cases z))
    | (refine ⟨rfl, ?_⟩; show decide _ = true; exact decide_eq_true rfl)
    | (refine ⟨rfl, ?_⟩; show decide _ = (_ == _); rw [Bool.eq_iff_iff]; simp; done)
theorem c_eq (hu : X.A.units + 64 < cLine) : OpR X (compareOp .Eq) (rD2 X.K X.mg E eqM) := by
  intro pins s σ H x y v u Q I rx ry ⟨g, S, d, e, ok, r1, r2, h⟩
  obtain ⟨hc, h⟩ := wp_guard h
  rw [Bool.or_eq_true] at hc
  rcases hc with hc | hc
  · obtain ⟨h1, h2⟩ := scal_rep r1 r2 hc
    exact op_eq pins s σ H _ _ v u Q I rx ry ⟨h1, by rw [h2]; exact h g H _ .refl ok (.bl _)⟩
  · rw [Bool.and_eq_true] at hc
    obtain ⟨p, ep, sp⟩ := D.py_sh hc.1
    obtain ⟨q, eq, sq⟩ := D.py_sh hc.2
    exact op_eqD hu pins s σ H _ _ v u Q I rx ry ⟨p, q, r1.dp ok.sub ep, r2.dp ok.sub eq, sp, sq, by rw [← D.eqv_py _ _ _ _ ep eq]; exact h g H _ .refl ok (.bl _)⟩
theorem c_ne (hu : X.A.units + 64 < cLine) : OpR X (compareOp .NotEq) (rD2 X.K X.mg E neM) := by
  intro pins s σ H x y v u Q I rx ry ⟨g, S, d, e, ok, r1, r2, h⟩
  obtain ⟨hc, h⟩ := wp_guard h
  rw [Bool.or_eq_true] at hc
  rcases hc with hc | hc
  · obtain ⟨h1, h2⟩ := scal_rep r1 r2 hc
    exact op_ne pins s σ H _ _ v u Q I rx ry ⟨h1, by rw [h2]; exact h g H _ .refl ok (.bl _)⟩
  · rw [Bool.and_eq_true] at hc
    obtain ⟨p, ep, sp⟩ := D.py_sh hc.1
    obtain ⟨q, eq, sq⟩ := D.py_sh hc.2
    exact op_neD hu pins s σ H _ _ v u Q I rx ry ⟨p, q, r1.dp ok.sub ep, r2.dp ok.sub eq, sp, sq, by rw [← D.eqv_py _ _ _ _ ep eq]; exact h g H _ .refl ok (.bl _)⟩
theorem c_int {op : CmpOp} {f : Int → Int → Bool} {om : D → D → M D} (hf : OpR X (compareOp op) (rI0 fun i j => .bl (f i j))) (ho : ∀ (d e : D) (S : List OS) (Q : D → List OS → Prop) (E : Ex → List OS → Prop), wp (om d e) S Q E → ∃ i j, d = .int i ∧ e = .int j ∧ Q (.bl (f i j)) S) : OpR X (compareOp op) (rD2 X.K X.mg E om) := by
  intro pins s σ H x y v u Q I rx ry ⟨g, S, d, e, ok, r1, r2, h⟩
  obtain ⟨i, j, rfl, rfl, h2⟩ := ho d e S _ _ h
  cases r1; cases r2
  exact hf pins s σ H _ _ v u Q I rx ry ⟨i, j, rfl, rfl, h2 g H _ .refl ok (.bl _)⟩
theorem c_lt : OpR X (compareOp .Lt) (rD2 X.K X.mg E ltM) := c_int op_lt fun d e S Q E h => by
  cases d <;> cases e <;> first | exact ⟨_, _, rfl, rfl, h⟩ | exact h.elim
theorem c_le : OpR X (compareOp .LtE) (rD2 X.K X.mg E leM) := c_int op_le fun d e S Q E h => by
  cases d <;> cases e <;> first | exact ⟨_, _, rfl, rfl, h⟩ | exact h.elim
theorem c_gt : OpR X (compareOp .Gt) (rD2 X.K X.mg E gtM) := c_int op_gt fun d e S Q E h => by
  cases d <;> cases e <;> first | exact ⟨_, _, rfl, rfl, h⟩ | exact h.elim
theorem c_ge : OpR X (compareOp .GtE) (rD2 X.K X.mg E geM) := c_int op_ge fun d e S Q E h => by
  cases d <;> cases e <;> first | exact ⟨_, _, rfl, rfl, h⟩ | exact h.elim
/-- is None -/
def isnM : D → D → M D
  | d, .non => .ret (.bl (match d with | .non => true | _ => false))
  | _, _ => .bad
def notnM : D → D → M D
  | d, .non => .ret (.bl (match d with | .non => false | _ => true))
  | _, _ => .bad
theorem c_isn : OpR X (compareOp .Is) (rD2 X.K X.mg E isnM) := by
  intro pins s σ H x y v u Q I rx ry ⟨g, S, d, e, ok, r1, r2, h⟩
  cases r2 with
  | non =>
    refine op_isN pins s σ H _ _ v u Q I rx ry ⟨rfl, ?_⟩
    cases r1 <;> exact h g H _ .refl ok (.bl _)
  | _ => cases d <;> exact h.elim
theorem c_notn : OpR X (compareOp .IsNot) (rD2 X.K X.mg E notnM) := by
  intro pins s σ H x y v u Q I rx ry ⟨g, S, d, e, ok, r1, r2, h⟩
  cases r2 with
  | non =>
    refine op_notN pins s σ H _ _ v u Q I rx ry ⟨rfl, ?_⟩
    cases r1 <;> exact h g H _ .refl ok (.bl _)
  | _ => cases d <;> exact h.elim
/-- in -/
def D.flat : D → Bool
  | .non => true
  | .bl _ => true
  | .int _ => true
  | .str _ => true
  | _ => false
def inL (d : D) (ys : List D) : Bool := ys.any fun y => D.eqv y d
def inM (neg : Bool) : D → D → M D
  | .str a, .str b => if a.length = 1 then .ret (.bl (neg ^^ decide (a.cps.getD 0 0 ∈ b.cps.toList))) else .bad
  | d, .tup ys => if (d.flat && ys.all D.flat) || (d.sh && D.sh (.tup ys)) then .ret (.bl (neg ^^ inL d ys)) else .bad
  | d, .lst ys => if (d.flat && ys.all D.flat) || (d.sh && D.sh (.lst ys)) then .ret (.bl (neg ^^ inL d ys)) else .bad
  | _, _ => .bad
theorem flat_rep {K : PySem.W.Frag} {F : Hp} {θ : List Addr} {x : V} {d : D} (r : Rep K F θ x d) (h : d.flat = true) : flatV x = true := by
  cases r <;> first | rfl | exact absurd (show false = true from h) Bool.false_ne_true
theorem flat_eqv {K : PySem.W.Frag} {F : Hp} {θ : List Addr} {x y : V} {d e : D} (r : Rep K F θ x d) (q : Rep K F θ y e) (h : d.flat = true) (h' : e.flat = true) : eqV x y = D.eqv d e := by
  cases r <;> cases q <;> first | rfl | exact absurd (show false = true from h) Bool.false_ne_true | exact absurd (show false = true from h') Bool.false_ne_true
theorem flat_all {K : PySem.W.Frag} {F : Hp} {θ : List Addr} {x : V} {d : D} (r : Rep K F θ x d) (h : d.flat = true) : ∀ {ys : List D} {vs : List V}, RepL K F θ vs ys → ys.all D.flat = true → vs.all flatV = true ∧ inV x vs = inL d ys
  | _, _, .nil, _ => ⟨rfl, rfl⟩
  | y :: ys, v :: vs, .cons ry rs, hf => by
    rw [List.all_cons, Bool.and_eq_true] at hf
    obtain ⟨h1, h2⟩ := flat_all r h rs hf.2
    refine ⟨by rw [List.all_cons, flat_rep ry hf.1, h1]; rfl, ?_⟩
    show (eqV v x || inV x vs) = (D.eqv y d || inL d ys)
    rw [flat_eqv ry r hf.1 h, h2]
theorem str_one {a : Str} (h : a.length = 1) : a = ⟨#[a.cps.getD 0 0]⟩ := by
  obtain ⟨⟨l⟩⟩ := a
  match l, h with
  | [c], _ => rfl
theorem any_py {p : PyData} {d : D} (e : d.py = some p) : ∀ {ys : List D} {ps : List PyData}, D.pyL ys = some ps → (ps.any fun z => PyData.eqv z p) = inL d ys
  | [], _, h => by cases h; rfl
  | y :: ys, _, h => by
    obtain ⟨q, qs, e1, e2, rfl⟩ := D.pyL_cons h
    show (PyData.eqv q p || qs.any _) = (D.eqv y d || inL d ys)
    rw [any_py e e2, D.eqv_py _ _ _ _ e1 e]
theorem c_inG (hu : X.A.units + 65 < cLine) (neg : Bool) {op : CmpOp} (hop : op = if neg then .NotIn else .In) : OpR X (compareOp op) (rD2 X.K X.mg E (inM neg)) := by
  subst hop
  intro pins s σ H x y v u Q I rx ry ⟨g, S, d, e, ok, r1, r2, h⟩
  have seq : ∀ {ys : List D} {a : Addr} {vs : List V}, RepL X.K g.F g.θ vs ys → (SqL X.K H a vs ∨ SqT X.K H a vs) → y = .ref a → d.flat = true → ys.all D.flat = true → wp (M.ret (D.bl (neg ^^ inL d ys))) S (VP X.K g H Q) (XP X.K X.mg g H E) →
      wpAny (model X.prog X.w) X.A (compareOp (if neg then .NotIn else .In) v u) (EP X pins σ Q) X.xe s := by
    rintro ys a vs rs hq rfl f1 f2 h
    obtain ⟨h1, h2⟩ := flat_all r1 f1 rs f2
    cases neg with
    | false => exact op_in_seq pins s σ H _ _ v u Q I rx ry ⟨a, vs, rfl, hq, flat_rep r1 f1, h1, by rw [if_neg (by decide), h2]; exact h g H _ .refl ok (by rw [Bool.false_xor]; exact .bl _)⟩
    | true => exact op_notIn_seq pins s σ H _ _ v u Q I rx ry ⟨a, vs, rfl, hq, flat_rep r1 f1, h1, by rw [if_pos rfl, h2]; exact h g H _ .refl ok (by rw [Bool.true_xor]; exact .bl _)⟩
  have deep : ∀ {ys : List D} {c : D} {p : PyData} {ps : List PyData}, (c = .tup ys ∨ c = .lst ys) → e = c → d.sh = true → c.sh = true → wp (M.ret (D.bl (neg ^^ inL d ys))) S (VP X.K g H Q) (XP X.K X.mg g H E) →
      wpAny (model X.prog X.w) X.A (compareOp (if neg then .NotIn else .In) v u) (EP X pins σ Q) X.xe s := by
    rintro ys c _ _ hc rfl f1 f2 h
    obtain ⟨p, ep, sp⟩ := D.py_sh f1
    obtain ⟨q, eq, sq⟩ := D.py_sh f2
    obtain ⟨as, a1⟩ := Dp.reads I p x v (r1.dp ok.sub ep) rx
    obtain ⟨bs, a2⟩ := Dp.reads I q y u (r2.dp ok.sub eq) ry
    have fin : ∀ b, b = (neg ^^ inL d ys) → EP X pins σ Q (.bool b) s := fun b hb => by subst hb; exact ⟨.bl _, H, I, rfl, h g H _ .refl ok (.bl _)⟩
    rcases hc with rfl | rfl
    · obtain ⟨ps, e2, rfl⟩ := D.py_tup eq
      cases neg with
      | false => exact SeqAt.in_tuple_reads a2 a1 (SeqAt.canLay_of_shaped sq) (SeqAt.canLay_of_shaped sp) (room_in_shaped sp hu) (fin _ (by rw [any_py ep e2, Bool.false_xor]))
      | true => exact SeqAt.notIn_tuple_reads a2 a1 (SeqAt.canLay_of_shaped sq) (SeqAt.canLay_of_shaped sp) (room_in_shaped sp hu) (fin _ (by rw [any_py ep e2, Bool.true_xor]))
    · obtain ⟨ps, e2, rfl⟩ := D.py_lst eq
      cases neg with
      | false => exact SeqAt.in_list_reads a2 a1 (SeqAt.canLay_of_shaped sq) (SeqAt.canLay_of_shaped sp) (room_in_shaped sp hu) (fin _ (by rw [any_py ep e2, Bool.false_xor]))
      | true => exact SeqAt.notIn_list_reads a2 a1 (SeqAt.canLay_of_shaped sq) (SeqAt.canLay_of_shaped sp) (room_in_shaped sp hu) (fin _ (by rw [any_py ep e2, Bool.true_xor]))
  cases e with
  | str b =>
    cases d with
    | str a =>
      obtain ⟨hz, h⟩ := wp_guard h
      cases r1; cases r2
      have ea := str_one hz
      cases neg with
      | false => exact op_in_sign pins s σ H _ _ v u Q I rx ry ⟨_, b, congrArg V.str ea, rfl, h g H _ .refl ok (by rw [Bool.false_xor]; exact .bl _)⟩
      | true => exact op_notIn_sign pins s σ H _ _ v u Q I rx ry ⟨_, b, congrArg V.str ea, rfl, h g H _ .refl ok (by rw [Bool.true_xor]; exact .bl _)⟩
    | _ => exact h.elim
  | tup ys =>
    have h' : wp (if ((d.flat && ys.all D.flat) || (d.sh && D.sh (.tup ys))) = true then M.ret (D.bl (neg ^^ inL d ys)) else .bad) S (VP X.K g H Q) (XP X.K X.mg g H E) := by cases d <;> exact h
    obtain ⟨hc, h'⟩ := wp_guard h'
    rw [Bool.or_eq_true, Bool.and_eq_true, Bool.and_eq_true] at hc
    rcases hc with hc | hc
    · obtain ⟨a, vs, rfl, s2, q2⟩ := rep_ref r2
      exact seq q2 (.inr (SqT.sub ok.sub s2)) rfl hc.1 hc.2 h'
    · exact deep (p := .none) (ps := []) (.inl rfl) rfl hc.1 hc.2 h'
  | lst ys =>
    have h' : wp (if ((d.flat && ys.all D.flat) || (d.sh && D.sh (.lst ys))) = true then M.ret (D.bl (neg ^^ inL d ys)) else .bad) S (VP X.K g H Q) (XP X.K X.mg g H E) := by cases d <;> exact h
    obtain ⟨hc, h'⟩ := wp_guard h'
    rw [Bool.or_eq_true, Bool.and_eq_true, Bool.and_eq_true] at hc
    rcases hc with hc | hc
    · obtain ⟨a, vs, rfl, s2, q2⟩ := rep_refL r2
      exact seq q2 (.inl (SqL.of (ok.sub _ _ s2))) rfl hc.1 hc.2 h'
    · exact deep (p := .none) (ps := []) (.inr rfl) rfl hc.1 hc.2 h'
  | _ => cases d <;> exact h.elim
theorem c_in (hu : X.A.units + 65 < cLine) : OpR X (compareOp .In) (rD2 X.K X.mg E (inM false)) := c_inG hu false rfl
theorem c_nin (hu : X.A.units + 65 < cLine) : OpR X (compareOp .NotIn) (rD2 X.K X.mg E (inM true)) := c_inG hu true rfl
/-! ### chains -/
def eChain (f h : D → D → M D) (a b c : Ev → M D) : Ev → M D := fun ρ => a ρ >>= fun x => b ρ >>= fun y => f x y >>= fun z => match z with
  | .bl true => c ρ >>= fun w => h y w
  | .bl false => .ret (.bl false)
  | _ => .bad
variable {a b c : Expr} {ma mb mc : Ev → M D} {pos : Pos}
theorem chain_go {om on : D → D → M D} {σ : L2.St} {H : Hp} {Q : VK} (h : tE X.K X.mg E (eChain om on ma mb mc) σ H Q) :
    tChain (rD2 X.K X.mg E om) (rD2 X.K X.mg E on) (tE X.K X.mg E ma) (tE X.K X.mg E mb) (tE X.K X.mg E mc) σ H Q := by
  obtain ⟨g, S, ρ, L, ok, en, h⟩ := h
  refine ⟨g, S, ρ, L, ok, en, wp_mono (wp_bind.mp h) (fun d1 S1 h1 g1 H1 v1 gr1 ok1 r1 => ⟨g1, S1, ρ, L, ok1, en.grow gr1, ?_⟩) fun _ _ z => z⟩
  refine wp_mono (wp_bind.mp h1) (fun d2 S2 h2 g2 H2 v2 gr2 ok2 r2 => ⟨g2, S2, d1, d2, ok2, gr2.rep r1, r2, ?_⟩) fun _ _ z => z.grow gr1
  refine wp_mono (wp_bind.mp h2) (fun d3 S3 h3 g3 H3 v3 gr3 ok3 r3 => ?_) fun _ _ z => z.grow (gr1.trans gr2)
  have gr123 := gr1.trans (gr2.trans gr3)
  cases d3 with
  | bl k =>
    cases r3
    refine ⟨k, rfl, ?_⟩
    cases k with
    | false => rw [if_neg (by decide)]; exact h3 g3 H3 _ gr123 ok3 (.bl _)
    | true =>
      rw [if_pos rfl]
      refine ⟨g3, S3, ρ, L, ok3, en.grow gr123, wp_mono (wp_bind.mp h3) (fun d4 S4 h4 g4 H4 v4 gr4 ok4 r4 => ⟨g4, S4, d2, d4, ok4, gr4.rep (gr3.rep r2), r4, ?_⟩) fun _ _ z => z.grow gr123⟩
      exact wp_mono h4 (fun _ _ z => z.grow (gr123.trans gr4)) fun _ _ z => z.grow (gr123.trans gr4)
  | _ => exact h3.elim
theorem re_chain {op op' : CmpOp} {om on : D → D → M D} (ho : OpR X (compareOp op) (rD2 X.K X.mg E om)) (ho' : OpR X (compareOp op') (rD2 X.K X.mg E on)) (ha : RE X E a ma) (hb : RE X E b mb) (hc : RE X E c mc) (hm : lastMarks [op, op'] [b, c] = false := by with_unfolding_all rfl) :
    RE X E (.Compare a [op, op'] [b, c] pos) (eChain om on ma mb mc) := pe_weak (pe_chain ho ho' ha hb hc hm) fun σ H Q h => chain_go h
theorem rt_chain {op op' : CmpOp} {om on : D → D → M D} (ho : OpR X (compareOp op) (rD2 X.K X.mg E om)) (ho' : OpR X (compareOp op') (rD2 X.K X.mg E on)) (ha : RE X E a ma) (hb : RE X E b mb) (hc : RE X E c mc) (hm : lastMarks [op, op'] [b, c] = false := by with_unfolding_all rfl) :
    RT X E (.Compare a [op, op'] [b, c] pos) (tV (eChain om on ma mb mc)) := by
  refine pt_weak (pt_chain ho ho' ha hb hc hm) fun σ H Q ⟨g, S, ρ, L, ok, en, h⟩ => ?_
  refine chain_go ⟨g, S, ρ, L, ok, en, wp_mono (wp_bind.mp h) (fun d S1 h1 g1 H1 v gr ok1 r => ?_) fun _ _ z => z⟩
  cases d with
  | bl k => cases r; exact ⟨k, rfl, h1 g1 H1 gr ok1⟩
  | _ => exact h1.elim
/-! ### a subscript -/
def idxM : D → D → M D
  | .tup xs, .int i => match atI xs i with
    | some x => .ret x
    | none => .bad
  | .lst xs, .int i => match atI xs i with
    | some x => .ret x
    | none => .bad
  | .str z, .int i => if z.length ≤ sizeLine then (match atI z.cps.toList i with
    | some c => .ret (.str ⟨#[c]⟩)
    | none => .bad) else .bad
  | _, _ => .bad
theorem at_rep {K : PySem.W.Frag} {F : Hp} {θ : List Addr} {vs : List V} {ds : List D} {i : Int} {d : D} (r : RepL K F θ vs ds) (e : atI ds i = some d) : ∃ v, atI vs i = some v ∧ Rep K F θ v d := by
  unfold atI at e ⊢
  rw [r.length]
  cases hj : ixN ds.length i with
  | none => rw [hj] at e; cases e
  | some j =>
    rw [hj] at e
    exact r.get e
theorem ix_all : IxR X (rD2 X.K X.mg E idxM) := by
  intro value slice pins s σ H x y v u Q I rx ry ⟨g, S, d, e, ok, r1, r2, h⟩ hs
  cases d with
  | tup xs =>
    cases e with
    | int i =>
      obtain ⟨a, vs, rfl, s1, q1⟩ := rep_ref r1
      cases r2
      have h : wp (match atI xs i with | some x => M.ret x | none => .bad) S (VP X.K g H Q) (XP X.K X.mg g H E) := h
      cases hx : atI xs i with
      | none => rw [hx] at h; exact h.elim
      | some d =>
        rw [hx] at h
        obtain ⟨w, e1, r⟩ := at_rep q1 hx
        exact ix_tup value slice pins s σ H _ _ v u Q I rx ry ⟨a, vs, i, w, rfl, rfl, SqT.sub ok.sub s1, e1, h g H w .refl ok r⟩ hs
    | _ => exact h.elim
  | lst xs =>
    cases e with
    | int i =>
      obtain ⟨a, vs, rfl, s1, q1⟩ := rep_refL r1
      cases r2
      have h : wp (match atI xs i with | some x => M.ret x | none => .bad) S (VP X.K g H Q) (XP X.K X.mg g H E) := h
      cases hx : atI xs i with
      | none => rw [hx] at h; exact h.elim
      | some d =>
        rw [hx] at h
        obtain ⟨w, e1, r⟩ := at_rep q1 hx
        exact ix_list value slice pins s σ H _ _ v u Q I rx ry ⟨a, vs, i, w, rfl, rfl, SqL.of (ok.sub _ _ s1), e1, h g H w .refl ok r⟩ hs
    | _ => exact h.elim
  | str z =>
    cases e with
    | int i =>
      cases r1; cases r2
      obtain ⟨hz, h⟩ := wp_guard h
      cases hx : atI z.cps.toList i with
      | none => rw [hx] at h; exact h.elim
      | some c =>
        rw [hx] at h
        exact ix_str value slice pins s σ H _ _ v u Q I rx ry ⟨z, i, c, rfl, rfl, hz, hx, h g H _ .refl ok (.str _)⟩ hs
    | _ => exact h.elim
  | _ => exact h.elim
theorem re_ix (ha : RE X E a ma) (hb : RE X E b mb) (hs : PlainIx b := by exact fun _ _ => rfl) : RE X E (.Subscript a b pos) (eBin idxM ma mb) :=
  pe_weak (pe_ix ix_all ha hb hs) fun σ H Q h => two (fun _ _ _ z => z) (fun _ _ _ z => z) (fun _ _ _ _ z => z) h
/-! ### slices -/
def cutL {α : Type} (xs : List α) (lo hi : Option Int) : List α := (xs.drop (HT.sIx xs.length 0 lo)).take (HT.sIx xs.length xs.length hi - HT.sIx xs.length 0 lo)
theorem cut_rep {K : PySem.W.Frag} {F : Hp} {θ : List Addr} {vs : List V} {ds : List D} (lo hi : Option Int) (r : RepL K F θ vs ds) : RepL K F θ (cutV vs lo hi) (cutL ds lo hi) := by
  unfold cutV cutL
  rw [r.length]
  exact (r.drop _).take _
def sliceM (lo hi : Option Int) : D → M D
  | .tup xs => .ret (.tup (cutL xs lo hi))
  | .lst xs => .ret (.lst (cutL xs lo hi))
  | .scr ns => .ret (.lst (cutL (ns.map D.int) lo hi))
  | .str z => if z.length ≤ sizeLine then .ret (.str (cutS z lo hi)) else .bad
  | _ => .bad
def rSlD (K : PySem.W.Frag) (mg : Str → Option Value) (E : XK) : V → Option Int → Option Int → Hp → VK → Prop := fun x lo hi H Q => ∃ g S d, StOk K S g H ∧ Rep K g.F g.θ x d ∧ wp (sliceM lo hi d) S (VP K g H Q) (XP K mg g H E)
theorem cut_whole {α : Type} {xs : List α} {lo hi : Option Int} (h : HT.sIx xs.length 0 lo = 0 ∧ HT.sIx xs.length xs.length hi = xs.length) : cutL xs lo hi = xs := by
  unfold cutL
  rw [h.1, h.2]
  simp
theorem ints_repL0 {K : PySem.W.Frag} {F : Hp} {θ : List Addr} : ∀ cs : List Int, RepL K F θ (cs.map V.int) (cs.map D.int)
  | [] => .nil
  | c :: cs => .cons (.int c) (ints_repL0 cs)
theorem sl_all : SlR X (rSlD X.K X.mg E) := by
  intro pins s σ H x v vl vu lo hi sl Q I rx hs pl pu ⟨g, S, d, ok, r1, h⟩
  cases d with
  | tup xs =>
    obtain ⟨a, vs, rfl, s1, q1⟩ := rep_ref r1
    refine sl_tupA pins s σ H _ v vl vu lo hi sl Q I rx hs pl pu ⟨a, vs, rfl, SqT.sub ok.sub s1, fun e => ?_, fun _ p hp => ?_⟩
    · rw [q1.length] at e
      exact h g H _ .refl ok (by rw [cut_whole e]; exact r1)
    · obtain ⟨ok2, gr2⟩ := ok.laid (o := .tup (cutV vs lo hi)) hp
      exact h _ _ _ gr2 ok2 (.tup (SqT.of upd_same) (gr2.repL (cut_rep lo hi q1)))
  | lst xs =>
    obtain ⟨a, vs, rfl, s1, q1⟩ := rep_refL r1
    refine sl_list pins s σ H _ v vl vu lo hi sl Q I rx hs pl pu ⟨a, vs, rfl, SqL.of (ok.sub _ _ s1), fun p hp => ?_⟩
    obtain ⟨ok2, gr2⟩ := ok.laid (o := .lst (cutV vs lo hi)) hp
    exact h _ _ _ gr2 ok2 (.lst upd_same (gr2.repL (cut_rep lo hi q1)))
  | scr ns =>
    obtain ⟨a, rfl, s1⟩ : ∃ a, x = .ref a ∧ SqL X.K g.F a (ns.map V.int) := by cases r1 with | scr s => exact ⟨_, rfl, s⟩
    refine sl_list pins s σ H _ v vl vu lo hi sl Q I rx hs pl pu ⟨a, _, rfl, SqL.sub ok.sub s1, fun p hp => ?_⟩
    obtain ⟨ok2, gr2⟩ := ok.laid (o := .lst (cutV (ns.map V.int) lo hi)) hp
    exact h _ _ _ gr2 ok2 (.lst upd_same (gr2.repL (cut_rep lo hi (ints_repL0 ns))))
  | str z =>
    cases r1
    obtain ⟨hz, h⟩ := wp_guard h
    exact sl_str pins s σ H _ v vl vu lo hi sl Q I rx hs pl pu ⟨z, rfl, hz, h g H _ .refl ok (.str _)⟩
  | _ => exact h.elim
def pNo : Ev → M (Option Int) := fun _ => .ret none
def pSome (m : Ev → M D) : Ev → M (Option Int) := fun ρ => m ρ >>= fun d => match d with
  | .int i => .ret (some i)
  | _ => .bad
def OP (K : PySem.W.Frag) (g : Gw) (H : Hp) (Q : Option Int → Hp → Prop) : Option Int → List OS → Prop := fun b S' => ∀ g' H', Grow g H g' H' → StOk K S' g' H' → Q b H'
def tO (K : PySem.W.Frag) (mg : Str → Option Value) (E : XK) (m : Ev → M (Option Int)) : TO := fun σ H Q => ∃ g S ρ L, StOk K S g H ∧ EnvOk K L g H σ ρ ∧ wp (m ρ) S (OP K g H Q) (XP K mg g H E)
abbrev RO (X : Cx) (E : XK) (e : Option Expr) (m : Ev → M (Option Int)) : Prop := PO X e (tO X.K X.mg E m)
theorem ro_no : RO X E none pNo := ⟨fun pins s σ H Q I ⟨g, S, ρ, L, ok, en, h⟩ => po_none.run pins s σ H Q I (h g H .refl ok)⟩
theorem ro_some (ha : RE X E a ma) : RO X E (some a) (pSome ma) := ⟨fun pins s σ H Q I ⟨g, S, ρ, L, ok, en, h⟩ => (po_some ha).run pins s σ H Q I ⟨g, S, ρ, L, ok, en, wp_mono (wp_bind.mp h) (fun d S1 h1 g1 H1 v gr ok1 r => by
  cases d with
  | int i => cases r; exact ⟨i, rfl, h1 g1 H1 gr ok1⟩
  | _ => exact h1.elim) fun _ _ z => z⟩⟩
def eSl (ma : Ev → M D) (lo hi : Ev → M (Option Int)) : Ev → M D := fun ρ => ma ρ >>= fun d => lo ρ >>= fun l => hi ρ >>= fun u => sliceM l u d
theorem re_sl {lo hi : Option Expr} {ml mh : Ev → M (Option Int)} {p2 : Pos} (ha : RE X E a ma) (hl : RO X E lo ml) (hh : RO X E hi mh) : RE X E (.Subscript a (.Slice lo hi none p2) pos) (eSl ma ml mh) := by
  refine pe_weak (pe_slice (sl_all (E := E)) ha hl hh) fun σ H Q ⟨g, S, ρ, L, ok, en, h⟩ => ?_
  refine ⟨g, S, ρ, L, ok, en, wp_mono (wp_bind.mp h) (fun d1 S1 h1 g1 H1 v1 gr1 ok1 r1 => ⟨g1, S1, ρ, L, ok1, en.grow gr1, ?_⟩) fun _ _ z => z⟩
  refine wp_mono (wp_bind.mp h1) (fun d2 S2 h2 g2 H2 gr2 ok2 => ⟨g2, S2, ρ, L, ok2, (en.grow gr1).grow gr2, ?_⟩) fun _ _ z => z.grow gr1
  refine wp_mono (wp_bind.mp h2) (fun d3 S3 h3 g3 H3 gr3 ok3 => ⟨g3, S3, d1, ok3, gr3.rep (gr2.rep r1), ?_⟩) fun _ _ z => z.grow (gr1.trans gr2)
  exact wp_mono h3 (fun _ _ z => z.grow (gr1.trans (gr2.trans gr3))) fun _ _ z => z.grow (gr1.trans (gr2.trans gr3))
end
end F
namespace F
open PySem PySem.Spec PyProof.Rows L2
/-! ## built-ins, by data -/
def lenM : D → M D
  | .tup xs => .ret (.int xs.length)
  | .lst xs => .ret (.int xs.length)
  | .str x => if x.length ≤ sizeLine then .ret (.int x.length) else .bad
  | _ => .bad
def blsOf : List D → Option (List Bool)
  | [] => some []
  | .bl b :: r => (blsOf r).map (b :: ·)
  | _ :: _ => none
def intsOf : List D → Option (List Int)
  | [] => some []
  | .int b :: r => (intsOf r).map (b :: ·)
  | _ :: _ => none
def strsOf : List D → Option (List Str)
  | [] => some []
  | .str b :: r => (strsOf r).map (b :: ·)
  | _ :: _ => none
def allM : D → M D
  | .lst xs => match blsOf xs with
    | some bs => .ret (.bl (bs.all id))
    | none => .bad
  | _ => .bad
def anyM : D → M D
  | .lst xs => match blsOf xs with
    | some bs => .ret (.bl (bs.any id))
    | none => .bad
  | _ => .bad
def sumM : D → M D
  | .lst xs => match intsOf xs with
    | some bs => .ret (.int bs.sum)
    | none => .bad
  | _ => .bad
def tupleM : D → M D
  | .lst xs => .ret (.tup xs)
  | .tup xs => .ret (.tup xs)
  | _ => .bad
def listN : D → M (List D)
  | .lst xs => .ret xs
  | .tup xs => .ret xs
  | _ => .bad
def L1 (f : D → M D) : List D → M D
  | [d] => f d
  | _ => .bad
def L1N (f : D → M (List D)) : List D → M (List D)
  | [d] => f d
  | _ => .bad
/-- the ints in order -/
def srtI (ns : List Int) : List Int := ns.mergeSort fun a b => decide (a ≤ b)
def sortedN : D → M (List D)
  | .lst xs => match intsOf xs with
    | some ns => .ret ((srtI ns).map D.int)
    | none => .bad
  | _ => .bad
def intM : D → M D
  | .int i => .ret (.int i)
  | .bl b => .ret (.int (if b then 1 else 0))
  | .str a => match PySem.intText? a with
    | some n => if a.length ≤ 640 then .ret (.int n) else .bad
    | none => .bad
  | _ => .bad
def strM : D → M D
  | .int i => if i.natAbs.log2 < 1920 then .ret (.str (toString i)) else .bad
  | .str a => .ret (.str a)
  | _ => .bad
def maxM : List D → M D
  | [.int i, .int j] => .ret (.int (if j > i then j else i))
  | _ => .bad
def minM : List D → M D
  | [.int i, .int j] => .ret (.int (if j < i then j else i))
  | _ => .bad
section
variable {K : PySem.W.Frag} {F : Hp} {θ : List Addr}
theorem repL_nil {vs : List V} (r : RepL K F θ vs []) : vs = [] := by cases r; rfl
theorem repL_one {vs : List V} {d : D} (r : RepL K F θ vs [d]) : ∃ v, vs = [v] ∧ Rep K F θ v d := by
  cases r with | cons h r => cases r; exact ⟨_, rfl, h⟩
theorem repL_two {vs : List V} {d e : D} (r : RepL K F θ vs [d, e]) : ∃ v w, vs = [v, w] ∧ Rep K F θ v d ∧ Rep K F θ w e := by
  cases r with | cons h r => cases r with | cons h' r => cases r; exact ⟨_, _, rfl, h, h'⟩
theorem blsOf_map : ∀ {ds : List D} {bs : List Bool}, blsOf ds = some bs → ds = bs.map D.bl
  | [], _, h => by cases h; rfl
  | .bl b :: r, bs, h => by
    unfold blsOf at h
    cases e : blsOf r with
    | none => rw [e] at h; cases h
    | some cs => rw [e] at h; cases h; rw [blsOf_map e]; rfl
theorem intsOf_map : ∀ {ds : List D} {bs : List Int}, intsOf ds = some bs → ds = bs.map D.int
  | [], _, h => by cases h; rfl
  | .int b :: r, bs, h => by
    unfold intsOf at h
    cases e : intsOf r with
    | none => rw [e] at h; cases h
    | some cs => rw [e] at h; cases h; rw [intsOf_map e]; rfl
theorem strsOf_map : ∀ {ds : List D} {bs : List Str}, strsOf ds = some bs → ds = bs.map D.str
  | [], _, h => by cases h; rfl
  | .str b :: r, bs, h => by
    unfold strsOf at h
    cases e : strsOf r with
    | none => rw [e] at h; cases h
    | some cs => rw [e] at h; cases h; rw [strsOf_map e]; rfl
@[simp] theorem blsOf_bl (bs : List Bool) : blsOf (bs.map D.bl) = some bs := by
  induction bs with
  | nil => rfl
  | cons b r ih => simp [blsOf, ih]
@[simp] theorem intsOf_int (bs : List Int) : intsOf (bs.map D.int) = some bs := by
  induction bs with
  | nil => rfl
  | cons b r ih => simp [intsOf, ih]
@[simp] theorem strsOf_str (bs : List Str) : strsOf (bs.map D.str) = some bs := by
  induction bs with
  | nil => rfl
  | cons b r ih => simp [strsOf, ih]
theorem repL_bls : ∀ {bs : List Bool} {vs : List V}, RepL K F θ vs (bs.map D.bl) → vs = bs.map V.bl
  | [], _, r => repL_nil r
  | b :: bs, _, .cons h r => by cases h; rw [repL_bls r]; rfl
theorem repL_ints : ∀ {bs : List Int} {vs : List V}, RepL K F θ vs (bs.map D.int) → vs = bs.map V.int
  | [], _, r => repL_nil r
  | b :: bs, _, .cons h r => by cases h; rw [repL_ints r]; rfl
theorem repL_strs : ∀ {bs : List Str} {vs : List V}, RepL K F θ vs (bs.map D.str) → vs = bs.map V.str
  | [], _, r => repL_nil r
  | b :: bs, _, .cons h r => by cases h; rw [repL_strs r]; rfl
theorem ints_repL : ∀ (bs : List Int), RepL K F θ (bs.map V.int) (bs.map D.int)
  | [] => .nil
  | b :: bs => .cons (.int b) (ints_repL bs)
theorem strs_repL : ∀ (bs : List Str), RepL K F θ (bs.map V.str) (bs.map D.str)
  | [] => .nil
  | b :: bs => .cons (.str b) (strs_repL bs)
end
theorem srtI_perm (ns : List Int) : (srtI ns).Perm ns := List.mergeSort_perm ..
theorem srtI_sorted (ns : List Int) : (srtI ns).Pairwise (· ≤ ·) := by
  have h := List.pairwise_mergeSort (le := fun a b : Int => decide (a ≤ b)) (fun a b c h1 h2 => by simp at *; omega) (fun a b => by simp; omega) ns
  exact h.imp fun {a b} h => by simpa using h
theorem sorted_one {ms ns : List Int} (p : ms.Perm ns) (h1 : ms.Pairwise (· ≤ ·)) (h2 : ns.Pairwise (· ≤ ·)) : ms = ns :=
  p.eq_of_pairwise (fun a b _ _ h1 h2 => Int.le_antisymm h1 h2) h1 h2
section
variable {X : Cx} {E : XK}
theorem b_len : CallR X (.builtin "len") (rDL X.K X.mg E (L1 lenM)) := by
  intro pins s σ H xs us Q I rx ⟨g, S, ds, ok, r, h⟩
  have fin : ∀ {d : D} {v : V} {n : Nat}, ds = [d] → xs = [v] → Rep X.K g.F g.θ v d → LenV X.K v H n → wp (M.ret (D.int n)) S (VP X.K g H Q) (XP X.K X.mg g H E) → wpAny (model X.prog X.w) X.A (call (.builtin "len") us) (EP X pins σ Q) X.xe s := by
    rintro d v n rfl rfl hr hl h
    exact call_len pins s σ H _ us Q I rx ⟨v, n, rfl, hl, h g H _ .refl ok (.int _)⟩
  match ds, h with
  | [.tup ys], h =>
    obtain ⟨v, rfl, hr⟩ := repL_one r
    obtain ⟨a, vs, rfl, s1, q1⟩ := rep_ref hr
    exact fin rfl rfl hr (n := ys.length) (.inr ⟨vs, SqT.sub ok.sub s1, q1.length.symm⟩) h
  | [.lst ys], h =>
    obtain ⟨v, rfl, hr⟩ := repL_one r
    obtain ⟨a, vs, rfl, s1, q1⟩ := rep_refL hr
    exact fin rfl rfl hr (n := ys.length) (.inl ⟨vs, SqL.of (ok.sub _ _ s1), q1.length.symm⟩) h
  | [.str z], h =>
    obtain ⟨v, rfl, hr⟩ := repL_one r
    obtain ⟨hz, h⟩ := wp_guard h
    cases hr
    exact fin rfl rfl (.str z) (n := z.length) ⟨hz, rfl⟩ h
  | [], h | _ :: _ :: _, h => exact h.elim
  | [.non], h | [.bl _], h | [.int _], h | [.dic _], h | [.obj _], h | [.scr _], h => exact h.elim
theorem b_all (hc : X.calm = true) : CallR X (.builtin "all") (rDL X.K X.mg E (L1 allM)) := by
  intro pins s σ H xs us Q I rx ⟨g, S, ds, ok, r, h⟩
  match ds, h with
  | [.lst ys], h =>
    obtain ⟨v, rfl, hr⟩ := repL_one r
    obtain ⟨a, vs, rfl, s1, q1⟩ := rep_refL hr
    have h : wp (match blsOf ys with | some bs => M.ret (D.bl (bs.all id)) | none => .bad) S (VP X.K g H Q) (XP X.K X.mg g H E) := h
    cases e : blsOf ys with
    | none => rw [e] at h; exact h.elim
    | some bs =>
      rw [e] at h
      rw [blsOf_map e] at q1
      rw [repL_bls q1] at s1
      exact cr_all hc pins s σ H _ us Q I rx ⟨a, bs, rfl, SqL.of (ok.sub _ _ s1), h g H _ .refl ok (.bl _)⟩
  | [], h | _ :: _ :: _, h => exact h.elim
  | [.non], h | [.bl _], h | [.int _], h | [.str _], h | [.tup _], h | [.dic _], h | [.obj _], h | [.scr _], h => exact h.elim
theorem b_any (hc : X.calm = true) : CallR X (.builtin "any") (rDL X.K X.mg E (L1 anyM)) := by
  intro pins s σ H xs us Q I rx ⟨g, S, ds, ok, r, h⟩
  match ds, h with
  | [.lst ys], h =>
    obtain ⟨v, rfl, hr⟩ := repL_one r
    obtain ⟨a, vs, rfl, s1, q1⟩ := rep_refL hr
    have h : wp (match blsOf ys with | some bs => M.ret (D.bl (bs.any id)) | none => .bad) S (VP X.K g H Q) (XP X.K X.mg g H E) := h
    cases e : blsOf ys with
    | none => rw [e] at h; exact h.elim
    | some bs =>
      rw [e] at h
      rw [blsOf_map e] at q1
      rw [repL_bls q1] at s1
      exact cr_any hc pins s σ H _ us Q I rx ⟨a, bs, rfl, SqL.of (ok.sub _ _ s1), h g H _ .refl ok (.bl _)⟩
  | [], h | _ :: _ :: _, h => exact h.elim
  | [.non], h | [.bl _], h | [.int _], h | [.str _], h | [.tup _], h | [.dic _], h | [.obj _], h | [.scr _], h => exact h.elim
theorem b_sum (hc : X.calm = true) : CallR X (.builtin "sum") (rDL X.K X.mg E (L1 sumM)) := by
  intro pins s σ H xs us Q I rx ⟨g, S, ds, ok, r, h⟩
  match ds, h with
  | [.lst ys], h =>
    obtain ⟨v, rfl, hr⟩ := repL_one r
    obtain ⟨a, vs, rfl, s1, q1⟩ := rep_refL hr
    have h : wp (match intsOf ys with | some bs => M.ret (D.int bs.sum) | none => .bad) S (VP X.K g H Q) (XP X.K X.mg g H E) := h
    cases e : intsOf ys with
    | none => rw [e] at h; exact h.elim
    | some bs =>
      rw [e] at h
      rw [intsOf_map e] at q1
      rw [repL_ints q1] at s1
      exact cr_sum hc pins s σ H _ us Q I rx ⟨a, bs, rfl, SqL.of (ok.sub _ _ s1), h g H _ .refl ok (.int _)⟩
  | [], h | _ :: _ :: _, h => exact h.elim
  | [.non], h | [.bl _], h | [.int _], h | [.str _], h | [.tup _], h | [.dic _], h | [.obj _], h | [.scr _], h => exact h.elim
theorem b_tuple : CallR X (.type "tuple") (rDL X.K X.mg E (L1 tupleM)) := by
  intro pins s σ H xs us Q I rx ⟨g, S, ds, ok, r, h⟩
  match ds, h with
  | [.lst ys], h =>
    obtain ⟨v, rfl, hr⟩ := repL_one r
    obtain ⟨a, vs, rfl, s1, q1⟩ := rep_refL hr
    refine call_tuple_of pins s σ H _ us Q I rx ⟨a, vs, rfl, .inl ⟨SqL.of (ok.sub _ _ s1), fun p hp => ?_⟩⟩
    obtain ⟨ok2, gr2⟩ := ok.laid (o := .tup vs) hp
    exact h _ _ _ gr2 ok2 (.tup (SqT.of upd_same) (gr2.repL q1))
  | [.tup ys], h =>
    obtain ⟨v, rfl, hr⟩ := repL_one r
    obtain ⟨a, vs, rfl, s1, q1⟩ := rep_ref hr
    exact call_tuple_of pins s σ H _ us Q I rx ⟨a, vs, rfl, .inr ⟨SqT.sub ok.sub s1, h g H _ .refl ok hr⟩⟩
  | [], h | _ :: _ :: _, h => exact h.elim
  | [.non], h | [.bl _], h | [.int _], h | [.str _], h | [.dic _], h | [.obj _], h | [.scr _], h => exact h.elim
theorem b_list : CallR X (.type "list") (rDN X.K X.mg E (L1N listN)) := by
  intro pins s σ H xs us Q I rx ⟨g, S, ds, ok, r, h⟩
  have fin : ∀ {a : Addr} {vs : List V} {ys : List D}, xs = [V.ref a] → (SqL X.K H a vs ∨ SqT X.K H a vs) → RepL X.K g.F g.θ vs ys → wp (M.ret ys) S (NP X.K g H Q) (XP X.K X.mg g H E) → wpAny (model X.prog X.w) X.A (call (.type "list") us) (EP X pins σ Q) X.xe s := by
    rintro a vs ys rfl hq q1 h
    refine call_list_of pins s σ H _ us Q I rx ⟨a, vs, rfl, hq, fun p hp => ?_⟩
    obtain ⟨ok2, gr2, hF, hθ⟩ := ok.made (o := .lst vs) hp
    exact h _ _ _ _ gr2 ok2 hp upd_same hF hθ q1
  match ds, h with
  | [.lst ys], h =>
    obtain ⟨v, rfl, hr⟩ := repL_one r
    obtain ⟨a, vs, rfl, s1, q1⟩ := rep_refL hr
    exact fin rfl (.inl (SqL.of (ok.sub _ _ s1))) q1 h
  | [.tup ys], h =>
    obtain ⟨v, rfl, hr⟩ := repL_one r
    obtain ⟨a, vs, rfl, s1, q1⟩ := rep_ref hr
    exact fin rfl (.inr (SqT.sub ok.sub s1)) q1 h
  | [], h | _ :: _ :: _, h => exact h.elim
  | [.non], h | [.bl _], h | [.int _], h | [.str _], h | [.dic _], h | [.obj _], h | [.scr _], h => exact h.elim
theorem b_sorted : CallR X (.builtin "sorted") (rDN X.K X.mg E (L1N sortedN)) := by
  intro pins s σ H xs us Q I rx ⟨g, S, ds, ok, r, h⟩
  match ds, h with
  | [.lst ys], h =>
    obtain ⟨v, rfl, hr⟩ := repL_one r
    obtain ⟨a, vs, rfl, s1, q1⟩ := rep_refL hr
    have h : wp (match intsOf ys with | some ns => M.ret ((srtI ns).map D.int) | none => .bad) S (NP X.K g H Q) (XP X.K X.mg g H E) := h
    cases e : intsOf ys with
    | none => rw [e] at h; exact h.elim
    | some ns =>
      rw [e] at h
      rw [intsOf_map e] at q1
      rw [repL_ints q1] at s1
      refine cr_sortedI pins s σ H _ us Q I rx ⟨a, ns, rfl, SqL.of (ok.sub _ _ s1), fun ms p hp hs hn => ?_⟩
      have em : ms = srtI ns := sorted_one (hp.trans (srtI_perm ns).symm) hs (srtI_sorted ns)
      subst em
      obtain ⟨ok2, gr2, hF, hθ⟩ := ok.made (o := .lst ((srtI ns).map V.int)) hn
      exact h _ _ _ _ gr2 ok2 hn upd_same hF hθ (ints_repL _)
  | [], h | _ :: _ :: _, h => exact h.elim
  | [.non], h | [.bl _], h | [.int _], h | [.str _], h | [.tup _], h | [.dic _], h | [.obj _], h | [.scr _], h => exact h.elim
theorem b_int : CallR X (.type "int") (rDL X.K X.mg E (L1 intM)) := by
  intro pins s σ H xs us Q I rx ⟨g, S, ds, ok, r, h⟩
  match ds, h with
  | [.int i], h =>
    obtain ⟨v, rfl, hr⟩ := repL_one r
    cases hr
    exact call_int1 pins s σ H _ us Q I rx (.inl ⟨i, rfl, h g H _ .refl ok (.int _)⟩)
  | [.bl i], h =>
    obtain ⟨v, rfl, hr⟩ := repL_one r
    cases hr
    exact call_int1 pins s σ H _ us Q I rx (.inr ⟨i, rfl, h g H _ .refl ok (.int _)⟩)
  | [.str a], h =>
    obtain ⟨v, rfl, hr⟩ := repL_one r
    cases hr
    have h : wp (match PySem.intText? a with | some n => if a.length ≤ 640 then M.ret (D.int n) else .bad | none => .bad) S (VP X.K g H Q) (XP X.K X.mg g H E) := h
    cases e : PySem.intText? a with
    | none => rw [e] at h; exact h.elim
    | some n =>
      rw [e] at h
      obtain ⟨hz, h⟩ := wp_guard h
      exact call_int_str pins s σ H _ us Q I rx ⟨a, n, rfl, e, hz, h g H _ .refl ok (.int _)⟩
  | [], h | _ :: _ :: _, h => exact h.elim
  | [.non], h | [.lst _], h | [.tup _], h | [.dic _], h | [.obj _], h | [.scr _], h => exact h.elim
theorem b_str : CallR X (.type "str") (rDL X.K X.mg E (L1 strM)) := by
  intro pins s σ H xs us Q I rx ⟨g, S, ds, ok, r, h⟩
  match ds, h with
  | [.int i], h =>
    obtain ⟨v, rfl, hr⟩ := repL_one r
    cases hr
    obtain ⟨hz, h⟩ := wp_guard h
    exact call_str_int pins s σ H _ us Q I rx ⟨i, rfl, hz, h g H _ .refl ok (.str _)⟩
  | [.str a], h =>
    obtain ⟨v, rfl, hr⟩ := repL_one r
    cases hr
    exact SkE.call_str_str pins s σ H _ us Q I rx ⟨a, rfl, h g H _ .refl ok (.str _)⟩
  | [], h | _ :: _ :: _, h => exact h.elim
  | [.non], h | [.bl _], h | [.lst _], h | [.tup _], h | [.dic _], h | [.obj _], h | [.scr _], h => exact h.elim
theorem b_max (hc : X.calm = true) : CallR X (.builtin "max") (rDL X.K X.mg E maxM) := by
  intro pins s σ H xs us Q I rx ⟨g, S, ds, ok, r, h⟩
  match ds, h with
  | [.int i, .int j], h =>
    obtain ⟨v, w, rfl, hr, hq⟩ := repL_two r
    cases hr; cases hq
    exact call_max2 hc pins s σ H _ us Q I rx ⟨i, j, rfl, h g H _ .refl ok (.int _)⟩
  | [], h => exact h.elim
  | [d], h => cases d <;> exact h.elim
  | d :: e :: _ :: _, h => cases d <;> first | exact h.elim | (cases e <;> exact h.elim)
  | [.non, _], h | [.bl _, _], h | [.str _, _], h | [.lst _, _], h | [.tup _, _], h | [.dic _, _], h | [.obj _, _], h | [.scr _, _], h => exact h.elim
  | [.int _, .non], h | [.int _, .bl _], h | [.int _, .str _], h | [.int _, .lst _], h | [.int _, .tup _], h | [.int _, .dic _], h | [.int _, .obj _], h | [.int _, .scr _], h => exact h.elim
theorem b_min (hc : X.calm = true) : CallR X (.builtin "min") (rDL X.K X.mg E minM) := by
  intro pins s σ H xs us Q I rx ⟨g, S, ds, ok, r, h⟩
  match ds, h with
  | [.int i, .int j], h =>
    obtain ⟨v, w, rfl, hr, hq⟩ := repL_two r
    cases hr; cases hq
    exact call_min2 hc pins s σ H _ us Q I rx ⟨i, j, rfl, h g H _ .refl ok (.int _)⟩
  | [], h => exact h.elim
  | [d], h => cases d <;> exact h.elim
  | d :: e :: _ :: _, h => cases d <;> first | exact h.elim | (cases e <;> exact h.elim)
  | [.non, _], h | [.bl _, _], h | [.str _, _], h | [.lst _, _], h | [.tup _, _], h | [.dic _, _], h | [.obj _, _], h | [.scr _, _], h => exact h.elim
  | [.int _, .non], h | [.int _, .bl _], h | [.int _, .str _], h | [.int _, .lst _], h | [.int _, .tup _], h | [.int _, .dic _], h | [.int _, .obj _], h | [.int _, .scr _], h => exact h.elim
/-! ### isinstance -/
def tyN : D → String
  | .non => "NoneType" | .bl _ => "bool" | .int _ => "int" | .str _ => "str" | .tup _ => "tuple" | .lst _ => "list" | .dic _ => "dict" | .obj _ => "" | .scr _ => ""
def D.ob : D → Bool
  | .obj _ => true
  | .scr _ => true
  | _ => false
def isiB (T t : String) : Bool := t == T || (t == "bool" && T == "int")
def isiM (T : String) (d : D) : M D := match d with
  | .obj _ => .bad
  | .scr _ => .bad
  | d => .ret (.bl (isiB T (tyN d)))
def IsiT (T : String) : Prop := ∀ t ∈ ["NoneType", "bool", "int", "str", "tuple", "list", "dict"], kitB t T = some (isiB T t)
theorem isi_int : IsiT "int" := by unfold IsiT; decide +kernel
theorem isi_bool : IsiT "bool" := by unfold IsiT; decide +kernel
theorem isi_str : IsiT "str" := by unfold IsiT; decide +kernel
theorem isi_tuple : IsiT "tuple" := by unfold IsiT; decide +kernel
theorem isi_list : IsiT "list" := by unfold IsiT; decide +kernel
theorem isi_dict : IsiT "dict" := by unfold IsiT; decide +kernel
theorem ty_rep {K : PySem.W.Frag} {S : List OS} {g : Gw} {H : Hp} {v : V} {d : D} (ok : StOk K S g H) (r : Rep K g.F g.θ v d) (h : d.ob = false) : TyX K H v (.type (tyN d)) := by
  cases r with
  | non => exact .base .non
  | bl b => exact .base (.bl b)
  | int b => exact .base (.int b)
  | str b => exact .base (.str b)
  | tup s r =>
    rcases SqT.sub ok.sub s with (s | ⟨o, s⟩) | ⟨o, its, n, e, c, _⟩
    · exact .base (.tup s)
    · exact .fTuple s
    · exact .kTuple e c
  | lst s r => exact .base (.lst (ok.sub _ _ s))
  | dic s r => exact .base (.dK (ok.sub _ _ s))
  | obj _ => cases h
  | scr _ => cases h
theorem tyN_mem {d : D} (h : d.ob = false) : tyN d ∈ ["NoneType", "bool", "int", "str", "tuple", "list", "dict"] := by
  cases d <;> first | (cases h; done) | simp [tyN]
variable {a : Expr} {ma : Ev → M D} {pos p p2 : Pos} {x : Str} {T : String}
theorem re_isi (hT : IsiT T) (hg : Gl X "isinstance") (hm : X.mg "isinstance" = none) (hgT : Gl X x) (hmT : X.mg x = none) (hv : bootBuiltins x = some (.type T)) (ha : RE X E a ma) (hn : x ≠ "__name__" := by decide) (hdb : (x == ("__debug__" : Str)) = false := by decide)
    (h1 : starEach [a, .Name x p2] X.env = (false, eval a X.env) :: starEach [.Name x p2] X.env := by rfl) (h2 : starEach [.Name x p2] X.env = (false, eval (.Name x p2) X.env) :: starEach [] X.env := by rfl) (hpl : (backTo pos (starEach [.Name x p2] X.env)).any (·.1) = false := by rfl) :
    RE X E (.Call (.Name "isinstance" p) [a, .Name x p2] [] pos) (eUn (isiM T) ma) := by
  refine pe_weak (pe_callB call_isi hg hm (by decide +kernel) (pa_cons ha (pa_cons (pe_bltn (v := .ty T) hgT hmT hv rfl hn hdb) pa_nil h2) h1) (by decide) (by decide) h1 hpl) fun σ H Q ⟨g, S, ρ, L, ok, en, h⟩ => ?_
  refine ⟨g, S, ρ, L, ok, en, wp_mono (wp_bind.mp h) (fun d S1 h1 g1 H1 v gr ok1 r => ?_) fun _ _ z => z⟩
  by_cases ho : d.ob = true
  · cases d <;> first | (cases ho; done) | exact h1.elim
  · have ho : d.ob = false := by simpa using ho
    have h1 : wp (M.ret (D.bl (isiB T (tyN d)))) S1 (VP X.K g H Q) (XP X.K X.mg g H E) := by
      cases d <;> first | exact h1 | (cases ho; done)
    exact ⟨v, .ty T, .type (tyN d), .type T, _, rfl, .ty T, ty_rep ok1 r ho, kit_ty (hT _ (tyN_mem ho)), h1 g1 H1 _ gr ok1 (.bl _)⟩
end
end F
namespace F
open PySem PySem.Spec PyProof.Rows L2 RZ
/-! ## what is walked -/
/-- from (g, H) on the walk J gives out ds -/
structure Yields (K : PySem.W.Frag) (J : It) (g : Gw) (H : Hp) (ds : List D) : Prop where
  go : ∀ g1 H1 (i : Nat) d S, Ext g g1 → StOk K S g1 H1 → ds[i]? = some d → J.go i H1 ∧ ∀ x H2, J.yld i H1 x H2 → ∃ g2, Grow g1 H1 g2 H2 ∧ StOk K S g2 H2 ∧ Rep K g2.F g2.θ x d
  stop : ∀ g1 H1 (i : Nat) S, Ext g g1 → StOk K S g1 H1 → ds.length ≤ i → J.stop i H1
def IP (K : PySem.W.Frag) (g : Gw) (H : Hp) (R : It → Hp → Prop) : List D → List OS → Prop := fun ds S' => ∀ g' H' J, Grow g H g' H' → StOk K S' g' H' → Yields K J g' H' ds → R J H'
def tI (K : PySem.W.Frag) (mg : Str → Option Value) (E : XK) (m : Ev → M (List D)) : TI := fun σ H R => ∃ g S ρ L, StOk K S g H ∧ EnvOk K L g H σ ρ ∧ wp (m ρ) S (IP K g H R) (XP K mg g H E)
abbrev RI (X : Cx) (E : XK) (tg e : Expr) (m : Ev → M (List D)) : Prop := PI X tg e (tI X.K X.mg E m)
theorem pi_weak {X : Cx} {tg e : Expr} {t t' : TI} (h : PI X tg e t) (w : ∀ σ H R, t' σ H R → t σ H R) : PI X tg e t' := ⟨fun pins s σ H Q I q => h.run pins s σ H Q I (w σ H Q q)⟩
section
variable {K : PySem.W.Frag} {g : Gw} {H : Hp} {ds : List D} {vs : List V} {a : Addr}
theorem y_list (hF : g.F a = some (.lst vs)) (r : RepL K g.F g.θ vs ds) : Yields K (Itl K a) g H ds := by
  refine ⟨fun g1 H1 i d S gr ok e => ?_, fun g1 H1 i S gr ok e => ⟨vs, SqL.of (ok.sub _ _ (gr.fm _ _ hF)), by rw [r.length]; exact e⟩⟩
  obtain ⟨v, ev, rv⟩ := r.get e
  have hS : SqL K H1 a vs := SqL.of (ok.sub _ _ (gr.fm _ _ hF))
  refine ⟨⟨vs, v, hS, ev⟩, fun x H2 y => ?_⟩
  obtain ⟨rfl, hx⟩ := y
  have e2 : v = x := Option.some.inj (ev.symm.trans (hx _ hS))
  subst e2
  exact ⟨g1, .refl, ok, gr.rep rv⟩
theorem y_tup (hF : SqT K g.F a vs) (r : RepL K g.F g.θ vs ds) : Yields K (Itt K a) g H ds := by
  refine ⟨fun g1 H1 i d S gr ok e => ?_, fun g1 H1 i S gr ok e => ⟨vs, SqT.sub ok.sub (SqT.sub gr.fm hF), by rw [r.length]; exact e⟩⟩
  obtain ⟨v, ev, rv⟩ := r.get e
  have hS : SqT K H1 a vs := SqT.sub ok.sub (SqT.sub gr.fm hF)
  refine ⟨⟨vs, v, hS, ev⟩, fun x H2 y => ?_⟩
  obtain ⟨rfl, hx⟩ := y
  have e2 : v = x := Option.some.inj (ev.symm.trans (hx _ hS))
  subst e2
  exact ⟨g1, .refl, ok, gr.rep rv⟩
def rangeD (lo : Int) (n : Nat) : List D := (List.range n).map fun i => D.int (lo + (i : Nat))
theorem rangeD_get {lo : Int} {n i : Nat} {d : D} (e : (rangeD lo n)[i]? = some d) : i < n ∧ d = .int (lo + i) := by
  unfold rangeD at e
  rw [List.getElem?_map] at e
  by_cases h : i < n
  · rw [List.getElem?_range h] at e
    exact ⟨h, (Option.some.inj e).symm⟩
  · rw [List.getElem?_eq_none (by simpa using h)] at e; cases e
theorem y_range {lo : Int} {n : Nat} : Yields K (Itr lo n) g H (rangeD lo n) := by
  refine ⟨fun g1 H1 i d S gr ok e => ?_, fun g1 H1 i S gr ok e => (by simpa [rangeD] using e : n ≤ i)⟩
  obtain ⟨h, rfl⟩ := rangeD_get e
  refine ⟨h, fun x H2 y => ?_⟩
  obtain ⟨rfl, rfl⟩ := y
  exact ⟨g1, .refl, ok, .int _⟩
def strD (x : Str) : List D := x.cps.toList.map fun c => D.str ⟨#[c]⟩
theorem y_str {x : Str} : Yields K (Its x) g H (strD x) := by
  refine ⟨fun g1 H1 i d S gr ok e => ?_, fun g1 H1 i S gr ok e => by simpa [strD, Its] using e⟩
  unfold strD at e
  rw [List.getElem?_map] at e
  cases q : x.cps.toList[i]? with
  | none => rw [q] at e; cases e
  | some c =>
    rw [q] at e
    have e := Option.some.inj e
    have q' : x.cps[i]? = some c := by simpa using q
    have hl : i < x.cps.size := (Array.getElem?_eq_some_iff.mp q').1
    refine ⟨hl, fun y H2 h => ?_⟩
    obtain ⟨rfl, c', h1, rfl⟩ := h
    rw [q'] at h1
    cases h1
    exact ⟨g1, .refl, ok, by rw [← e]; exact .str _⟩
def zipD (xs ys : List D) : List D := (xs.zip ys).map fun p => D.tup [p.1, p.2]
theorem zipD_get {xs ys : List D} {i : Nat} {d : D} (e : (zipD xs ys)[i]? = some d) : ∃ x y, xs[i]? = some x ∧ ys[i]? = some y ∧ d = .tup [x, y] := by
  unfold zipD at e
  rw [List.getElem?_map] at e
  cases q : (xs.zip ys)[i]? with
  | none => rw [q] at e; cases e
  | some p =>
    rw [q] at e
    obtain ⟨x, y⟩ := p
    rw [List.getElem?_zip_eq_some] at q
    exact ⟨x, y, q.1, q.2, (Option.some.inj e).symm⟩
theorem zipD_len {xs ys : List D} {i : Nat} (e : (zipD xs ys).length ≤ i) : xs.length ≤ i ∨ ys.length ≤ i := by
  unfold zipD at e
  rw [List.length_map, List.length_zip] at e
  omega
theorem y_zipL {b : Addr} {es : List D} {ws : List V} (hF : g.F a = some (.lst vs)) (r : RepL K g.F g.θ vs ds) (hG : g.F b = some (.lst ws)) (r2 : RepL K g.F g.θ ws es) : Yields K (Itz K a b) g H (zipD ds es) := by
  refine ⟨fun g1 H1 i d S gr ok e => ?_, fun g1 H1 i S gr ok e => ⟨vs, ws, SqL.of (ok.sub _ _ (gr.fm _ _ hF)), SqL.of (ok.sub _ _ (gr.fm _ _ hG)), by rw [r.length, r2.length]; exact zipD_len e⟩⟩
  obtain ⟨x, y, e1, e2, rfl⟩ := zipD_get e
  obtain ⟨v, ev, rv⟩ := r.get e1
  obtain ⟨w, ew, rw_⟩ := r2.get e2
  have hS : SqL K H1 a vs := SqL.of (ok.sub _ _ (gr.fm _ _ hF))
  have hT : SqL K H1 b ws := SqL.of (ok.sub _ _ (gr.fm _ _ hG))
  refine ⟨⟨vs, ws, v, w, hS, hT, ev, ew⟩, fun z H2 h => ?_⟩
  obtain ⟨T, x', y', rfl, hn, rfl, hx, hy⟩ := h
  have q1 : v = x' := Option.some.inj (ev.symm.trans (hx _ hS))
  have q2 : w = y' := Option.some.inj (ew.symm.trans (hy _ hT))
  subst q1 q2
  obtain ⟨ok2, gr2⟩ := ok.laid (o := .tup [v, w]) hn
  exact ⟨_, gr2, ok2, .tup (SqT.of upd_same) (gr2.repL (gr.repL (.cons rv (.cons rw_ .nil))))⟩
theorem y_zipT {b : Addr} {es : List D} {ws : List V} (hF : SqT K g.F a vs) (r : RepL K g.F g.θ vs ds) (hG : SqT K g.F b ws) (r2 : RepL K g.F g.θ ws es) : Yields K (ItzT K a b) g H (zipD ds es) := by
  refine ⟨fun g1 H1 i d S gr ok e => ?_, fun g1 H1 i S gr ok e => ⟨vs, ws, SqT.sub ok.sub (SqT.sub gr.fm hF), SqT.sub ok.sub (SqT.sub gr.fm hG), by rw [r.length, r2.length]; exact zipD_len e⟩⟩
  obtain ⟨x, y, e1, e2, rfl⟩ := zipD_get e
  obtain ⟨v, ev, rv⟩ := r.get e1
  obtain ⟨w, ew, rw_⟩ := r2.get e2
  have hS : SqT K H1 a vs := SqT.sub ok.sub (SqT.sub gr.fm hF)
  have hT : SqT K H1 b ws := SqT.sub ok.sub (SqT.sub gr.fm hG)
  refine ⟨⟨vs, ws, v, w, hS, hT, ev, ew⟩, fun z H2 h => ?_⟩
  obtain ⟨T, x', y', rfl, hn, rfl, hx, hy⟩ := h
  have q1 : v = x' := Option.some.inj (ev.symm.trans (hx _ hS))
  have q2 : w = y' := Option.some.inj (ew.symm.trans (hy _ hT))
  subst q1 q2
  obtain ⟨ok2, gr2⟩ := ok.laid (o := .tup [v, w]) hn
  exact ⟨_, gr2, ok2, .tup (SqT.of upd_same) (gr2.repL (gr.repL (.cons rv (.cons rw_ .nil))))⟩
end
section
variable {X : Cx} {E : XK} {tg a b : Expr} {ma mb : Ev → M D} {pos p : Pos}
def itM : D → M (List D)
  | .lst xs => .ret xs
  | .tup xs => .ret xs
  | .str x => .ret (strD x)
  | _ => .bad
def iAny (m : Ev → M D) : Ev → M (List D) := fun ρ => m ρ >>= itM
theorem ri_any (ha : RE X E a ma) : RI X E tg a (iAny ma) := by
  refine ⟨fun pins s σ H R I ⟨g, S, ρ, L, ok, en, h⟩ => ?_⟩
  have q : tE X.K X.mg E ma σ H (fun x H1 => ∃ g1 S1 d, Grow g H g1 H1 ∧ StOk X.K S1 g1 H1 ∧ Rep X.K g1.F g1.θ x d ∧ wp (itM d) S1 (IP X.K g H R) (XP X.K X.mg g H E)) :=
    ⟨g, S, ρ, L, ok, en, wp_mono (wp_bind.mp h) (fun d S1 h1 g1 H1 v gr ok1 r => ⟨g1, S1, d, gr, ok1, r, h1⟩) fun _ _ z => z⟩
  refine thn (ha.run pins s σ H _ I q) fun v s1 ⟨x, H1, I1, r1, g1, S1, d, gr, ok1, rp, h1⟩ => ?_
  cases d with
  | lst xs =>
    obtain ⟨l, vs, rfl, hF, rl⟩ := rep_refL rp
    cases r1
    have hq : SqL X.K H1 l vs := SqL.of (ok1.sub _ _ hF)
    obtain ⟨its, rv, pl, hz⟩ := I1.list hq
    refine wpAny_pyIter_list pl.isList ⟨_, [s1.heap.objs.size], _, Itl X.K l, H1, rfl, I1.kept (t' := s1.toks) (fun b o e => Heap.get?_push_of_some _ e), turn_list l _, ⟨_, Heap.get?_push_size _ rfl, rfl, rfl⟩, fun b hb => ?_, ?_⟩
    · obtain rfl : b = s1.heap.objs.size := by simpa using hb
      exact I1.fpOk (Nat.le_refl _) (I1.hok.fresh (Nat.le_refl _))
    · exact h1 g1 H1 _ gr ok1 (y_list hF rl)
  | tup xs =>
    obtain ⟨l, vs, rfl, hF, rl⟩ := rep_ref rp
    cases r1
    have hq : SqT X.K H1 l vs := SqT.sub ok1.sub hF
    obtain ⟨its, rv, pl, hz⟩ := I1.tuple hq
    refine wpAny_pyIter_tuple (show s1.heap.IsTuple l its.toArray from pl) ⟨_, [s1.heap.objs.size], _, Itt X.K l, H1, rfl, I1.kept (t' := s1.toks) (fun b o e => Heap.get?_push_of_some _ e), turn_tuple l _, ⟨_, Heap.get?_push_size _ rfl, rfl, rfl⟩, fun b hb => ?_, ?_⟩
    · obtain rfl : b = s1.heap.objs.size := by simpa using hb
      exact I1.fpOk (Nat.le_refl _) (I1.hok.fresh (Nat.le_refl _))
    · exact h1 g1 H1 _ gr ok1 (y_tup hF rl)
  | str x =>
    cases rp
    obtain ⟨t, rfl⟩ := r1
    have q := h1 g1 H1 _ gr ok1 (y_str (x := x))
    cases hu : x.cps.all (· < 128)
    · exact wpAny_pyIter_wide hu (pi_one (tk := s1.toks) I1 _ (turn_str _ x t "str_iterator" (.inr rfl)) ⟨_, Heap.get?_push_size _ rfl, rfl, rfl⟩ q)
    · exact wpAny_pyIter_ascii hu (pi_one (tk := s1.toks) I1 _ (turn_str _ x t "str_ascii_iterator" (.inl rfl)) ⟨_, Heap.get?_push_size _ rfl, rfl, rfl⟩ q)
  | _ => exact h1.elim
def itStr : D → M (List D)
  | .str x => .ret (strD x)
  | _ => .bad
def iStrM (m : Ev → M D) : Ev → M (List D) := fun ρ => m ρ >>= itStr
theorem ri_str (ha : RE X E a ma) : RI X E tg a (iStrM ma) := by
  refine pi_weak (pi_str ha) fun σ H R ⟨g, S, ρ, L, ok, en, h⟩ => ⟨g, S, ρ, L, ok, en, ?_⟩
  refine wp_mono (wp_bind.mp h) (fun d S1 h1 g1 H1 v gr ok1 r => ?_) fun _ _ z => z
  cases d with
  | str x => cases r; exact ⟨x, rfl, h1 g1 H1 _ gr ok1 y_str⟩
  | _ => exact h1.elim
/-- range(n), range(a, b) -/
def rng1 : List D → M (List D)
  | [.int j] => if -(2 ^ 62) ≤ j ∧ j < 2 ^ 62 then .ret (rangeD 0 j.toNat) else .bad
  | _ => .bad
def rng2 : List D → M (List D)
  | [.int i, .int j] => if -(2 ^ 62) ≤ i ∧ i < 2 ^ 62 ∧ -(2 ^ 62) ≤ j ∧ j < 2 ^ 62 then .ret (rangeD i (j - i).toNat) else .bad
  | _ => .bad
def iR1 (m : Ev → M (List D)) : Ev → M (List D) := fun ρ => m ρ >>= rng1
def iR2 (m : Ev → M (List D)) : Ev → M (List D) := fun ρ => m ρ >>= rng2
theorem ri_range1 {m : Ev → M (List D)} (hg : Gl X "range") (hm : X.mg "range" = none) (ha : RA X E [a] m) (hs : starEach [a] X.env = [(false, eval a X.env)] := by rfl) : RI X E tg (.Call (.Name "range" p) [a] [] pos) (iR1 m) := by
  refine pi_weak (pi_range1 hg hm ha hs) fun σ H R ⟨g, S, ρ, L, ok, en, h⟩ => ⟨g, S, ρ, L, ok, en, ?_⟩
  refine wp_mono (wp_bind.mp h) (fun d S1 h1 g1 H1 v gr ok1 r => ?_) fun _ _ z => z
  match d, h1 with
  | [.int j], h1 =>
    obtain ⟨w, rfl, hw⟩ := repL_one r
    cases hw
    obtain ⟨⟨h2, h3⟩, h1⟩ := wp_guard h1
    exact ⟨j, rfl, h2, h3, h1 g1 H1 _ gr ok1 y_range⟩
  | [], h1 => exact h1.elim
  | [.non], h1 | [.bl _], h1 | [.str _], h1 | [.tup _], h1 | [.lst _], h1 | [.dic _], h1 | [.obj _], h1 => exact h1.elim
  | d :: _ :: _, h1 => cases d <;> exact h1.elim
theorem ri_range2 {m : Ev → M (List D)} (hg : Gl X "range") (hm : X.mg "range" = none) (ha : RA X E [a, b] m) (hs : starEach [a, b] X.env = [(false, eval a X.env), (false, eval b X.env)] := by rfl) (hs2 : starEach [b] X.env = [(false, eval b X.env)] := by rfl) :
    RI X E tg (.Call (.Name "range" p) [a, b] [] pos) (iR2 m) := by
  refine pi_weak (pi_range2 hg hm ha hs hs2) fun σ H R ⟨g, S, ρ, L, ok, en, h⟩ => ⟨g, S, ρ, L, ok, en, ?_⟩
  refine wp_mono (wp_bind.mp h) (fun d S1 h1 g1 H1 v gr ok1 r => ?_) fun _ _ z => z
  match d, h1 with
  | [.int i, .int j], h1 =>
    obtain ⟨w, u, rfl, hw, hu⟩ := repL_two r
    cases hw; cases hu
    obtain ⟨h2, h1⟩ := wp_guard h1
    exact ⟨i, j, rfl, h2, h1 g1 H1 _ gr ok1 y_range⟩
  | [], h1 => exact h1.elim
  | [d], h1 => cases d <;> exact h1.elim
  | [.int _, .non], h1 | [.int _, .bl _], h1 | [.int _, .str _], h1 | [.int _, .tup _], h1 | [.int _, .lst _], h1 | [.int _, .dic _], h1 | [.int _, .obj _], h1 => exact h1.elim
  | [.non, _], h1 | [.bl _, _], h1 | [.str _, _], h1 | [.tup _, _], h1 | [.lst _, _], h1 | [.dic _, _], h1 | [.obj _, _], h1 => exact h1.elim
  | d :: e :: _ :: _, h1 => cases d <;> first | exact h1.elim | (cases e <;> exact h1.elim)
/-- zip -/
def zipM : List D → M (List D)
  | [.lst xs, .lst ys] => .ret (zipD xs ys)
  | [.tup xs, .tup ys] => .ret (zipD xs ys)
  | _ => .bad
def iZipM (m : Ev → M (List D)) : Ev → M (List D) := fun ρ => m ρ >>= zipM
theorem ri_zip {m : Ev → M (List D)} {tpos : Pos} {elts : List Expr} {kk : Nat} (hg : Gl X "zip") (hm : X.mg "zip" = none) (ha : RA X E [a, b] m)
    (hs : starEach [a, b] X.env = (false, eval a X.env) :: starEach [b] X.env := by rfl) (hpl : (backTo pos (starEach [b] X.env)).any (·.1) = false := by rfl) : RI X E (.Tuple elts kk tpos) (.Call (.Name "zip" p) [a, b] [] pos) (iZipM m) := by
  refine pi_weak (pi_zipA hg hm ha hs hpl) fun σ H R ⟨g, S, ρ, L, ok, en, h⟩ => ⟨g, S, ρ, L, ok, en, ?_⟩
  refine wp_mono (wp_bind.mp h) (fun d S1 h1 g1 H1 v gr ok1 r => ?_) fun _ _ z => z
  match d, h1 with
  | [.lst xs, .lst ys], h1 =>
    obtain ⟨w, u, rfl, hw, hu⟩ := repL_two r
    obtain ⟨l, vs, rfl, hF, rl⟩ := rep_refL hw
    obtain ⟨l2, vs2, rfl, hF2, rl2⟩ := rep_refL hu
    exact ⟨l, l2, vs, vs2, rfl, .inl ⟨SqL.of (ok1.sub _ _ hF), SqL.of (ok1.sub _ _ hF2), h1 g1 H1 _ gr ok1 (y_zipL hF rl hF2 rl2)⟩⟩
  | [.tup xs, .tup ys], h1 =>
    obtain ⟨w, u, rfl, hw, hu⟩ := repL_two r
    obtain ⟨l, vs, rfl, hF, rl⟩ := rep_ref hw
    obtain ⟨l2, vs2, rfl, hF2, rl2⟩ := rep_ref hu
    exact ⟨l, l2, vs, vs2, rfl, .inr ⟨SqT.sub ok1.sub hF, SqT.sub ok1.sub hF2, h1 g1 H1 _ gr ok1 (y_zipT hF rl hF2 rl2)⟩⟩
  | [], h1 => exact h1.elim
  | [d], h1 => cases d <;> exact h1.elim
  | [.lst _, .non], h1 | [.lst _, .bl _], h1 | [.lst _, .str _], h1 | [.lst _, .tup _], h1 | [.lst _, .int _], h1 | [.lst _, .dic _], h1 | [.lst _, .obj _], h1 => exact h1.elim
  | [.tup _, .non], h1 | [.tup _, .bl _], h1 | [.tup _, .str _], h1 | [.tup _, .lst _], h1 | [.tup _, .int _], h1 | [.tup _, .dic _], h1 | [.tup _, .obj _], h1 => exact h1.elim
  | [.non, _], h1 | [.bl _, _], h1 | [.str _, _], h1 | [.int _, _], h1 | [.dic _, _], h1 | [.obj _, _], h1 => exact h1.elim
  | d :: e :: _ :: _, h1 => cases d <;> first | exact h1.elim | (cases e <;> exact h1.elim)
end
/-! ## targets -/
abbrev GM := D → Ev → Option Ev
/-- a store to the slots ts alone -/
def tG (K : PySem.W.Frag) (ts : List Nat) (m : GM) : TG := fun v σ H Q => ∃ g S ρ L d ρ', StOk K S g H ∧ EnvOk K L g H σ ρ ∧ Rep K g.F g.θ v d ∧ m d ρ = some ρ' ∧
  ∀ σ', EnvOk K L g H σ' ρ' → σ'.length = σ.length → (∀ j, j ∉ ts → σ'[j]? = σ[j]?) → Q σ' H
def tGs (K : PySem.W.Frag) (ts : List Nat) (m : List D → Ev → Option Ev) : TGs := fun v σ H Q => ∃ g S ρ L d ρ', StOk K S g H ∧ EnvOk K L g H σ ρ ∧ RepL K g.F g.θ v d ∧ m d ρ = some ρ' ∧
  ∀ σ', EnvOk K L g H σ' ρ' → σ'.length = σ.length → (∀ j, j ∉ ts → σ'[j]? = σ[j]?) → Q σ' H
abbrev RG (X : Cx) (e : Expr) (ts : List Nat) (m : GM) : Prop := PG X e (tG X.K ts m)
abbrev RGs (X : Cx) (e : List Expr) (ts : List Nat) (m : List D → Ev → Option Ev) : Prop := PGs X e (tGs X.K ts m)
section
variable {X : Cx} {pos : Pos}
theorem pg_weak {e : Expr} {t t' : TG} (h : PG X e t) (w : ∀ v σ H Q, t' v σ H Q → t v σ H Q) : PG X e t' := ⟨fun pins s σ H v u Q I r q => h.run pins s σ H v u Q I r (w v σ H Q q)⟩
theorem pgs_weak {e : List Expr} {t t' : TGs} (h : PGs X e t) (w : ∀ v σ H Q, t' v σ H Q → t v σ H Q) : PGs X e t' := ⟨fun pins s σ H v u Q I r q => h.run pins s σ H v u Q I r (w v σ H Q q)⟩
def gN (i : Nat) : GM := fun d ρ => some (ρ.set i (.v d))
theorem rg_name (i : Nat) {x : Str} (hN : X.N.Nodup) (hi : X.N[i]? = some x := by rfl) (hx : Loc X.env.scope x := by first | exact Or.inl rfl | exact Or.inr rfl) (hf : X.fn x = true ∨ X.env.scope.names.lookup x = some .local := by first | exact .inl rfl | exact .inr rfl) : RG X (.Name x pos) [i] (gN i) := by
  refine pg_weak (pg_name hN hi hx hf) fun v σ H Q ⟨g, S, ρ, L, d, ρ', ok, en, r, e, h⟩ => ?_
  cases e
  exact h (σ.set i (some v)) (en.setv i r) (by simp) fun j hj => List.getElem?_set_ne (fun e => hj (by simp [e]))
def gAll0 : List D → Ev → Option Ev
  | [], ρ => some ρ
  | _, _ => none
def gAll1 (m : GM) (ms : List D → Ev → Option Ev) : List D → Ev → Option Ev
  | d :: ds, ρ => (m d ρ).bind fun ρ' => ms ds ρ'
  | _, _ => none
theorem rgs_nil : RGs X [] [] gAll0 := by
  refine pgs_weak pgs_nil fun v σ H Q ⟨g, S, ρ, L, d, ρ', ok, en, r, e, h⟩ => ?_
  cases d with
  | nil => cases r; cases e; exact ⟨rfl, h σ en rfl fun _ _ => rfl⟩
  | cons _ _ => cases e
theorem rgs_cons {e : Expr} {es : List Expr} {ts us : List Nat} {m : GM} {ms : List D → Ev → Option Ev} (h1 : RG X e ts m) (h2 : RGs X es us ms) (hs : (assignEach (e :: es) X.env).map (·.2) = assign e X.env :: (assignEach es X.env).map (·.2) := by rfl) : RGs X (e :: es) (ts ++ us) (gAll1 m ms) := by
  refine pgs_weak (pgs_cons h1 h2 hs) fun v σ H Q ⟨g, S, ρ, L, d, ρ', ok, en, r, e, h⟩ => ?_
  cases d with
  | nil => cases e
  | cons d ds =>
    cases r with
    | @cons v _ vs _ r rs =>
      have e : (m d ρ).bind (fun ρ' => ms ds ρ') = some ρ' := e
      cases em : m d ρ with
      | none => rw [em] at e; cases e
      | some ρ1 =>
        rw [em] at e
        have e : ms ds ρ1 = some ρ' := e
        refine ⟨v, vs, rfl, g, S, ρ, L, d, ρ1, ok, en, r, em, fun σ1 en1 l1 o1 => ⟨g, S, ρ1, L, ds, ρ', ok, en1, rs, e, fun σ2 en2 l2 o2 => h σ2 en2 (l2.trans l1) fun j hj => ?_⟩⟩
        rw [List.mem_append] at hj
        exact (o2 j fun z => hj (.inr z)).trans (o1 j fun z => hj (.inl z))
/-- (a, b, ..): n of them -/
def gTn (n : Nat) (ms : List D → Ev → Option Ev) : GM := fun d ρ => match d with
  | .tup ds => if ds.length = n then ms ds ρ else none
  | _ => none
theorem rg_tup {es : List Expr} {k : Nat} {ts : List Nat} {ms : List D → Ev → Option Ev} (n : Nat) (hc : X.calm = true) (h : RGs X es ts ms) (hn : (assignEach es X.env).length = n := by rfl) (hst : (assignEach es X.env).findIdx? (·.1) = none := by rfl) : RG X (.Tuple es k pos) ts (gTn n ms) := by
  refine pg_weak (pg_tup hc h hn hst) fun v σ H Q ⟨g, S, ρ, L, d, ρ', ok, en, r, e, h⟩ => ?_
  cases d with
  | tup ds =>
    obtain ⟨a, vs, rfl, hF, rl⟩ := rep_ref r
    have e : (if ds.length = n then ms ds ρ else none) = some ρ' := e
    by_cases hl : ds.length = n
    · rw [if_pos hl] at e
      exact ⟨a, vs, rfl, SqT.sub ok.sub hF, rl.length.trans hl, g, S, ρ, L, ds, ρ', ok, en, rl, e, h⟩
    · rw [if_neg hl] at e; cases e
  | _ => cases e
end
/-! ## list comprehensions -/
def wipeE (ρ : Ev) : List Nat → Ev
  | [] => ρ
  | v :: vs => (wipeE ρ vs).set v .no
section
variable {K : PySem.W.Frag} {L : Addr → Prop} {g : Gw} {H : Hp} {σ : L2.St} {ρ : Ev}
theorem EnvOk.setno (en : EnvOk K L g H σ ρ) (i : Nat) (w : Option V) : EnvOk K L g H (σ.set i w) (ρ.set i .no) := by
  refine ⟨by simp [en.len], fun j sv sl h1 h2 => ?_, fun j k a x y hjk h1 h2 h3 h4 h5 h6 => ?_⟩
  · by_cases e : i = j
    · subst e
      have hl : i < ρ.length := by simpa using (List.getElem?_eq_some_iff.mp h2).1
      rw [List.getElem?_set_self hl] at h2
      cases h2; trivial
    · rw [List.getElem?_set_ne e] at h1 h2
      exact en.ok j sv sl h1 h2
  · have key : ∀ (m : Nat) (z : Sl), (ρ.set i .no)[m]? = some z → z.isOwn = true → m ≠ i ∧ ρ[m]? = some z := fun m z h ho => by
      by_cases e : i = m
      · subst e
        have hl : i < ρ.length := by simpa using (List.getElem?_eq_some_iff.mp h).1
        rw [List.getElem?_set_self hl] at h
        cases h; cases ho
      · rw [List.getElem?_set_ne e] at h
        exact ⟨Ne.symm e, h⟩
    obtain ⟨n1, q1⟩ := key j x h3 h5
    obtain ⟨n2, q2⟩ := key k y h4 h6
    rw [List.getElem?_set_ne (Ne.symm n1)] at h1
    rw [List.getElem?_set_ne (Ne.symm n2)] at h2
    exact en.dis j k a x y hjk h1 h2 q1 q2 h5 h6
theorem EnvOk.wipe (en : EnvOk K L g H σ ρ) : ∀ vs : List Nat, EnvOk K L g H (wipe σ vs) (wipeE ρ vs)
  | [] => en
  | v :: vs => (EnvOk.wipe en vs).setno v none
theorem wipe_same {σ σ' : L2.St} (hl : σ'.length = σ.length) : ∀ {vs : List Nat}, (∀ j, j ∉ vs → σ'[j]? = σ[j]?) → wipe σ' vs = wipe σ vs := by
  intro vs h
  apply List.ext_getElem?
  intro j
  have key : ∀ (τ : L2.St) (vs : List Nat), (wipe τ vs)[j]? = if j ∈ vs ∧ j < τ.length then some none else τ[j]? := by
    intro τ vs
    induction vs with
    | nil => simp [wipe]
    | cons v vs ih =>
      show ((wipe τ vs).set v none)[j]? = _
      by_cases e : v = j
      · subst e
        by_cases hj : v < τ.length
        · rw [List.getElem?_set_self (by rw [wipe_length]; exact hj), if_pos ⟨List.mem_cons_self, hj⟩]
        · rw [List.getElem?_eq_none (by rw [List.length_set, wipe_length]; omega), if_neg (fun z => hj z.2), List.getElem?_eq_none (by omega)]
      · rw [List.getElem?_set_ne e, ih]
        have : (j ∈ v :: vs ∧ j < τ.length) ↔ (j ∈ vs ∧ j < τ.length) := by simp [Ne.symm e]
        simp only [this]
  rw [key, key, hl]
  split
  · rfl
  · rename_i hn
    by_cases hj : j ∈ vs
    · have hz : ¬ j < σ.length := fun z => hn ⟨hj, z⟩
      rw [List.getElem?_eq_none (by omega), List.getElem?_eq_none (by omega)]
    · exact h j hj
end
/-- the turns: what an item gives (none: the test fails) -/
def compM (f : D → M (Option D)) : List D → M (List D)
  | [] => .ret []
  | d :: ds => f d >>= fun o => compM f ds >>= fun r => .ret (o.toList ++ r)
def compI (gm : GM) (tm : Ev → M Bool) (em : Ev → M D) (ρ : Ev) (d : D) : M (Option D) := match gm d ρ with
  | some ρ' => tm ρ' >>= fun b => match b with
    | true => em ρ' >>= fun y => .ret (some y)
    | false => .ret none
  | none => .bad
def tYesM : Ev → M Bool := fun _ => .ret true
/-- [e for g in it if t], the comprehension's own slots vs -/
def nComp (vs : List Nat) (it : Ev → M (List D)) (gm : GM) (tm : Ev → M Bool) (em : Ev → M D) : Ev → M (List D) := fun ρ => it ρ >>= fun ds =>
  if ds.length ≤ sizeLine then (compM (compI gm tm em (wipeE ρ vs)) ds).noerr else .bad
abbrev RTs (X : Cx) (E : XK) (e : List Expr) (m : Ev → M Bool) : Prop := PTs X e (tT X.K X.mg E m)
end F
namespace F
open PySem PySem.Spec PyProof.Rows L2
section
variable {X : Cx} {E : XK}
theorem pts_weak {e : List Expr} {t t' : TT} (h : PTs X e t) (w : ∀ σ H Q, t' σ H Q → t σ H Q) : PTs X e t' := ⟨fun pins s σ H Q I q => h.run pins s σ H Q I (w σ H Q q)⟩
theorem rts_nil : RTs X E [] tYesM := pts_weak pts_nil fun σ H Q ⟨g, S, ρ, L, ok, en, h⟩ => h g H .refl ok
theorem rts_one {c : Expr} {m : Ev → M Bool} (h : RT X E c m) : RTs X E [c] m := pts_one h
theorem drop_cons {α : Type} {xs : List α} {i : Nat} {x : α} (e : xs[i]? = some x) : xs.drop i = x :: xs.drop (i + 1) := by
  obtain ⟨h, rfl⟩ := List.getElem?_eq_some_iff.mp e
  exact List.drop_eq_getElem_cons h
theorem wipe_off {j : Nat} (τ : L2.St) : ∀ {vs : List Nat}, j ∉ vs → (wipe τ vs)[j]? = τ[j]?
  | [], _ => rfl
  | v :: vs, hj => by
    show ((wipe τ vs).set v none)[j]? = _
    rw [List.getElem?_set_ne (fun e => hj (by simp [e])), wipe_off τ (fun z => hj (List.mem_cons_of_mem _ z))]
theorem wipe_wipe {σ : L2.St} {vs : List Nat} : wipe (wipe σ vs) vs = wipe σ vs := wipe_same (wipe_length σ vs) fun j hj => wipe_off σ hj
theorem Grow.wrote {g g1 : Gw} {H H1 : Hp} {p : Addr} {o : HO} (gr : Grow g H g1 H1) (hp : H p = none) : Grow g H g1 (upd H1 p o) := by
  refine ⟨fun a h => ?_, fun a x h hn => ?_, gr.th, gr.fm, gr.fn⟩
  · by_cases e : a = p
    · subst e; exact hp
    · rw [upd_ne e] at h; exact gr.dom a h
  · rw [upd_ne (ne_of_none h hp)]; exact gr.keep a x h hn
/-- the loop of a comprehension, by data -/
theorem comp_go {K : PySem.W.Frag} {mg : Str → Option Value} {wi : TI} {gx : TG} {tt : TT} {te : TE} {vs : List Nat} {it : Ev → M (List D)} {gm : GM} {tm : Ev → M Bool} {em : Ev → M D} {ts : List Nat}
    (hts : ∀ j ∈ ts, j ∈ vs) (hi : ∀ σ H R, tI K mg E it σ H R → wi σ H R) (hg : ∀ v σ H Q, tG K ts gm v σ H Q → gx v σ H Q) (ht : ∀ σ H Q, tT K mg E0 tm σ H Q → tt σ H Q) (he : ∀ σ H Q, tE K mg E0 em σ H Q → te σ H Q) {σ : L2.St} {H : Hp} {Q : VK}
    (h : tN K mg E (nComp vs it gm tm em) σ H Q) : tLc wi gx tt te vs σ H Q := by
  obtain ⟨g, S, ρ, L, ok, en, h⟩ := h
  refine hi _ _ _ ⟨g, S, ρ, L, ok, en, wp_mono (wp_bind.mp h) (fun ds S1 h1 g1 H1 J gr1 ok1 yl => ?_) fun _ _ z => z⟩
  obtain ⟨hz, h1⟩ := wp_guard h1
  rw [wp_noerr] at h1
  intro Dl hD
  obtain ⟨ok2, gr2, hF2, hθ2⟩ := ok1.made (o := .lst []) hD
  -- the invariant
  refine ⟨fun i m H' => i + m = ds.length ∧ ∃ g' S' acc dacc, acc.length ≤ i ∧ Grow g1 H1 g' H' ∧ StOk K S' g' H' ∧ H' Dl = some (.lst acc) ∧ g'.F Dl = none ∧ Dl ∉ g'.θ ∧ RepL K g'.F g'.θ acc dacc ∧
      wp (compM (compI gm tm em (wipeE ρ vs)) (ds.drop i)) S' (fun r S2 => NP K g H Q (dacc ++ r) S2) (fun _ _ => False),
    ⟨ds.length, by omega, g1, S1, [], [], Nat.zero_le _, gr2, ok2, upd_same, hF2, hθ2, .nil, by simpa using h1⟩, ?_⟩
  rintro i m H' ⟨him, g', S', acc, dacc, hacc, gr, ok', hA, hF, hθ, rA, hw⟩
  have grT : Grow g1 H1 g' H' := gr
  by_cases hlt : i < ds.length
  · right
    have ei : ds[i]? = some ds[i] := List.getElem?_eq_getElem hlt
    obtain ⟨go, yy⟩ := yl.go g' H' i ds[i] S' grT.ext ok' ei
    rw [drop_cons ei] at hw
    have hw := wp_bind.mp hw
    refine ⟨go, fun H2 => ∃ g2 S2 acc2 dacc2, acc2.length ≤ i + 1 ∧ Grow g1 H1 g2 H2 ∧ StOk K S2 g2 H2 ∧ H2 Dl = some (.lst acc2) ∧ g2.F Dl = none ∧ Dl ∉ g2.θ ∧ RepL K g2.F g2.θ acc2 dacc2 ∧
      wp (compM (compI gm tm em (wipeE ρ vs)) (ds.drop (i + 1))) S2 (fun r S3 => NP K g H Q (dacc2 ++ r) S3) (fun _ _ => False), fun H2 hN => ⟨m - 1, by omega, by omega, hN⟩, fun x H2 hy => ?_⟩
    obtain ⟨g2, gr3, ok3, rx⟩ := yy x H2 hy
    have hA2 := gr3.keep _ _ hA hθ
    have own : OwnAt g' (fun _ => True) Dl := ⟨trivial, hF, hθ⟩
    have own2 := own.grow hA gr3
    have en2 : EnvOk K L g2 H2 (wipe σ vs) (wipeE ρ vs) := EnvOk.wipe ((en.grow gr1).grow (grT.trans gr3)) vs
    cases egm : gm ds[i] (wipeE ρ vs) with
    | none => unfold compI at hw; rw [egm] at hw; exact hw.elim
    | some ρ1 =>
    have h3 : wp (tm ρ1 >>= fun b => match b with | true => em ρ1 >>= fun y => M.ret (some y) | false => .ret none) S' (fun o S2 => wp (compM (compI gm tm em (wipeE ρ vs)) (ds.drop (i + 1)) >>= fun r => .ret (o.toList ++ r)) S2 (fun r S2 => NP K g H Q (dacc ++ r) S2) (fun _ _ => False)) (fun _ _ => False) := by
      unfold compI at hw; rw [egm] at hw; exact hw
    refine hg _ _ _ _ ⟨g2, S', wipeE ρ vs, L, ds[i], ρ1, ok3, en2, rx, egm, fun σ3 en3 l3 o3 => ?_⟩
    refine ⟨(wipe_same (vs := vs) l3 fun j hj => o3 j fun z => hj (hts j z)).trans wipe_wipe, ?_⟩
    refine ht _ _ _ ⟨g2, S', ρ1, L, ok3, en3, wp_mono (wp_bind.mp h3) (fun b S4 h4 g4 H4 gr5 ok5 => ?_) fun _ _ z => z.elim⟩
    have hA4 := gr5.keep _ _ hA2 own2.2.2
    have own4 := own2.grow hA2 gr5
    have gr345 := gr3.trans gr5
    cases b with
    | false =>
      refine iteF ?_
      refine ⟨g4, S4, acc, dacc, Nat.le_succ_of_le hacc, gr.trans gr345, ok5, hA4, own4.2.1, own4.2.2, gr345.repL rA, ?_⟩
      have h4 : wp (compM (compI gm tm em (wipeE ρ vs)) (ds.drop (i + 1)) >>= fun r => .ret ((none : Option D).toList ++ r)) S4 (fun r S2 => NP K g H Q (dacc ++ r) S2) (fun _ _ => False) := h4
      exact wp_mono (wp_bind.mp h4) (fun r S5 z => z) fun _ _ z => z
    | true =>
      refine iteT ?_
      have h4 : wp (em ρ1 >>= fun y => M.ret (some y)) S4 (fun o S2 => wp (compM (compI gm tm em (wipeE ρ vs)) (ds.drop (i + 1)) >>= fun r => .ret (o.toList ++ r)) S2 (fun r S2 => NP K g H Q (dacc ++ r) S2) (fun _ _ => False)) (fun _ _ => False) := h4
      refine he _ _ _ ⟨g4, S4, ρ1, L, ok5, en3.grow gr5, wp_mono (wp_bind.mp h4) (fun y S5 h5 g5 H5 v gr6 ok6 rv => ?_) fun _ _ z => z.elim⟩
      have hA5 := gr6.keep _ _ hA4 own4.2.2
      have own5 := own4.grow hA4 gr6
      have grAll := gr345.trans gr6
      have gr0 : Grow g1 H1 g5 H5 := gr.trans grAll
      refine ⟨acc, hA5, by omega, g5, S5, acc ++ [v], dacc ++ [y], by simp; omega, ?_, ok6.wrote hA5 own5.2.1 own5.2.2, upd_same, own5.2.1, own5.2.2, (grAll.repL rA).append (.cons rv .nil), ?_⟩
      · exact gr0.wrote hD
      · exact wp_mono (wp_bind.mp h5) (fun r S6 z => by
          have z : NP K g H Q (dacc ++ ([y] ++ r)) S6 := z
          rw [List.append_assoc]; exact z) fun _ _ z => z
  · left
    have e : i = ds.length := by omega
    subst e
    refine ⟨yl.stop g' H' _ S' grT.ext ok' (Nat.le_refl _), ?_⟩
    rw [List.drop_length] at hw
    have hw : NP K g H Q (dacc ++ []) S' := hw
    rw [List.append_nil] at hw
    exact hw g' H' Dl acc (gr1.trans grT) ok' (gr1.dom _ hD) hA hF hθ rA
end
end F
namespace F
open PySem PySem.Spec PyProof.Rows L2
/-! ## own slots -/
section
variable {K : PySem.W.Frag} {L : Addr → Prop} {S : List OS} {g g1 : Gw} {H H1 : Hp} {σ : L2.St} {ρ : Ev}
theorem own_key {ρ : Ev} {i : Nat} {s0 : Sl} {m : Nat} {z : Sl} (h : (ρ.set i s0)[m]? = some z) : (m = i ∧ z = s0) ∨ (m ≠ i ∧ ρ[m]? = some z) := by
  by_cases e : i = m
  · subst e
    have hl : i < ρ.length := by simpa using (List.getElem?_eq_some_iff.mp h).1
    rw [List.getElem?_set_self hl] at h
    exact .inl ⟨rfl, (Option.some.inj h).symm⟩
  · rw [List.getElem?_set_ne e] at h
    exact .inr ⟨Ne.symm e, h⟩
/-- a new list of one's own -/
theorem EnvOk.seto (en : EnvOk K L g H σ ρ) (gr : Grow g H g1 H1) (i : Nat) {a : Addr} {vs : List V} {ds : List D} (hn : H a = none) (ha : H1 a = some (.lst vs)) (hF : g1.F a = none) (hθ : a ∉ g1.θ) (r : RepL K g1.F g1.θ vs ds) (hL : L a) :
    EnvOk K L g1 H1 (σ.set i (some (.ref a))) (ρ.set i (.own ds)) := by
  have en1 := en.grow gr
  refine ⟨by simp [en.len], fun j sv sl h1 h2 => ?_, fun j k b x y hjk h1 h2 h3 h4 h5 h6 => ?_⟩
  · rcases own_key h2 with ⟨rfl, rfl⟩ | ⟨hj, h2⟩
    · have hl : j < σ.length := by simpa using (List.getElem?_eq_some_iff.mp h1).1
      rw [List.getElem?_set_self hl] at h1
      cases h1
      exact ⟨a, vs, rfl, ha, r, hL, hF, hθ⟩
    · rw [List.getElem?_set_ne (Ne.symm hj)] at h1
      exact en1.ok j sv sl h1 h2
  · have other : ∀ (m : Nat) (z : Sl), m ≠ i → ρ[m]? = some z → z.isOwn = true → σ[m]? = some (some (.ref a)) → False := fun m z _ hz ho hs => by
      have q := en.ok m _ z hs hz
      cases z with
      | own ds' => obtain ⟨b, vs', e, h, _⟩ := q; cases e; rw [hn] at h; cases h
      | ownd ds' => obtain ⟨b, vs', e, h, _⟩ := q; cases e; rw [hn] at h; cases h
      | _ => cases ho
    rcases own_key h3 with ⟨rfl, rfl⟩ | ⟨hj, h3'⟩
    · have hl : j < σ.length := by simpa using (List.getElem?_eq_some_iff.mp h1).1
      rw [List.getElem?_set_self hl] at h1
      cases h1
      rcases own_key h4 with ⟨rfl, _⟩ | ⟨hk, h4'⟩
      · exact hjk rfl
      · rw [List.getElem?_set_ne (Ne.symm hk)] at h2
        exact other k y hk h4' h6 h2
    · rw [List.getElem?_set_ne (Ne.symm hj)] at h1
      rcases own_key h4 with ⟨rfl, _⟩ | ⟨hk, h4'⟩
      · have hl : k < σ.length := by simpa using (List.getElem?_eq_some_iff.mp h2).1
        rw [List.getElem?_set_self hl] at h2
        cases h2
        exact other j x hj h3' h5 h1
      · rw [List.getElem?_set_ne (Ne.symm hk)] at h2
        exact en.dis j k b x y hjk h1 h2 h3' h4' h5 h6
/-- one's own list is written -/
theorem EnvOk.wroteo (en : EnvOk K L g H σ ρ) {i : Nat} {a : Addr} {ds0 ds : List D} {vs : List V} (hi : ρ[i]? = some (.own ds0)) (hs : σ[i]? = some (some (.ref a))) (r : RepL K g.F g.θ vs ds) : EnvOk K L g (upd H a (.lst vs)) σ (ρ.set i (.own ds)) := by
  have q0 := en.ok i _ _ hs hi
  obtain ⟨a', vs0, e, h0, r0, o0⟩ := q0
  cases e
  refine ⟨by simp [en.len], fun j sv sl h1 h2 => ?_, fun j k b x y hjk h1 h2 h3 h4 h5 h6 => ?_⟩
  · rcases own_key h2 with ⟨rfl, rfl⟩ | ⟨hj, h2⟩
    · rw [hs] at h1; cases h1
      exact ⟨a, vs, rfl, upd_same, r, o0⟩
    · have q := en.ok j sv sl h1 h2
      cases sl with
      | no => trivial
      | v d => exact q
      | own ds' =>
        obtain ⟨b, vs', e, h, r', o⟩ := q
        subst e
        have nb : b ≠ a := fun e => by subst e; exact en.dis j i b _ _ hj h1 hs h2 hi rfl rfl
        exact ⟨b, vs', rfl, by rw [upd_ne nb]; exact h, r', o⟩
      | ownd ds' =>
        obtain ⟨b, vs', e, h, r', o⟩ := q
        subst e
        have nb : b ≠ a := fun e => by subst e; exact en.dis j i b _ _ hj h1 hs h2 hi rfl rfl
        exact ⟨b, vs', rfl, by rw [upd_ne nb]; exact h, r', o⟩
  · have key : ∀ (m : Nat) (z : Sl), (ρ.set i (.own ds))[m]? = some z → z.isOwn = true → ∃ z', ρ[m]? = some z' ∧ z'.isOwn = true := fun m z h ho => by
      rcases own_key h with ⟨rfl, rfl⟩ | ⟨_, h⟩
      · exact ⟨_, hi, rfl⟩
      · exact ⟨z, h, ho⟩
    obtain ⟨x', q1, o1⟩ := key j x h3 h5
    obtain ⟨y', q2, o2⟩ := key k y h4 h6
    exact en.dis j k b x' y' hjk h1 h2 q1 q2 o1 o2
/-- one's own list stays from now on -/
theorem EnvOk.froze (en : EnvOk K L g H σ ρ) {i : Nat} {a : Addr} {ds : List D} {vs : List V} (hi : ρ[i]? = some (.own ds)) (hs : σ[i]? = some (some (.ref a))) (ha : H a = some (.lst vs)) (hF : g.F a = none) (r : RepL K g.F g.θ vs ds) :
    EnvOk K L ⟨upd g.F a (.lst vs), g.θ⟩ H σ (ρ.set i (.v (.lst ds))) := by
  have fm := upd_fm (o := .lst vs) hF
  refine ⟨by simp [en.len], fun j sv sl h1 h2 => ?_, fun j k b x y hjk h1 h2 h3 h4 h5 h6 => ?_⟩
  · rcases own_key h2 with ⟨rfl, rfl⟩ | ⟨hj, h2⟩
    · rw [hs] at h1; cases h1
      exact ⟨_, rfl, .lst upd_same (r.mono fm fun _ _ z => z)⟩
    · have q := en.ok j sv sl h1 h2
      have own : ∀ {b : Addr}, sv = some (.ref b) → sl.isOwn = true → OwnAt g L b → OwnAt ⟨upd g.F a (.lst vs), g.θ⟩ L b := fun {b} e1 e2 o => by
        subst e1
        have nb : b ≠ a := fun e => by subst e; exact en.dis j i b _ _ hj h1 hs h2 hi e2 rfl
        exact ⟨o.1, by show upd g.F a _ b = none; rw [upd_ne nb]; exact o.2.1, o.2.2⟩
      cases sl with
      | no => trivial
      | v d => obtain ⟨v, e, rv⟩ := q; exact ⟨v, e, rv.mono fm fun _ _ z => z⟩
      | own ds' => obtain ⟨b, vs', e, h, r', o⟩ := q; exact ⟨b, vs', e, h, r'.mono fm (fun _ _ z => z), own e rfl o⟩
      | ownd ds' => obtain ⟨b, vs', e, h, r', o⟩ := q; exact ⟨b, vs', e, h, r'.mono fm (fun _ _ z => z), own e rfl o⟩
  · have key : ∀ (m : Nat) (z : Sl), (ρ.set i (.v (.lst ds)))[m]? = some z → z.isOwn = true → ρ[m]? = some z := fun m z h ho => by
      rcases own_key h with ⟨rfl, rfl⟩ | ⟨_, h⟩
      · cases ho
      · exact h
    exact en.dis j k b x y hjk h1 h2 (key j x h3 h5) (key k y h4 h6) h5 h6
end
section
variable {X : Cx} {E : XK} {g0 : Gw} {H0 : Hp} {a b c : Expr} {ma mb : Ev → M D} {pos p py : Pos}
abbrev RS (X : Cx) (g0 : Gw) (H0 : Hp) (E : XK) (e : Stmt) (m : SM) : Prop := PS X e (tS X.K X.mg g0 H0 E m)
abbrev RSs (X : Cx) (g0 : Gw) (H0 : Hp) (E : XK) (e : List Stmt) (m : SM) : Prop := PSs X e (tS X.K X.mg g0 H0 E m)
/-- from a statement to its expression -/
theorem to_e {K : PySem.W.Frag} {mg : Str → Option Value} {te : TE} {m : Ev → M D} {k : D → Ev → M Ctl} (hte : ∀ σ H Q, tE K mg E m σ H Q → te σ H Q) {W : Ends} {σ : L2.St} {H : Hp} {f : V → Hp → Prop}
    (hk : ∀ g S ρ d v H', Grow g0 H0 g H' → StOk K S g H' → EnvOk K (fun a => H0 a = none) g H' σ ρ → Rep K g.F g.θ v d → wp (k d ρ) S (CP K g0 H0 g W) (XP K mg g0 H0 E) → f v H')
    (h : tS K mg g0 H0 E (fun ρ => m ρ >>= fun d => k d ρ) W σ H) : te σ H f := by
  obtain ⟨g, S, ρ, gr, ok, en, h⟩ := h
  exact hte _ _ _ ⟨g, S, ρ, _, ok, en, wp_mono (wp_bind.mp h) (fun d S1 h1 g1 H1 v gr1 ok1 r => hk g1 S1 ρ d v H1 (gr.trans gr1) ok1 (en.grow gr1) r (wp_mono h1 (fun _ _ z => z.ext gr1.ext) fun _ _ z => z)) fun _ _ z => z.grow gr⟩
theorem to_n {K : PySem.W.Frag} {mg : Str → Option Value} {te : TE} {m : Ev → M (List D)} {k : List D → Ev → M Ctl} (hte : ∀ σ H Q, tN K mg E m σ H Q → te σ H Q) {W : Ends} {σ : L2.St} {H : Hp} {f : V → Hp → Prop}
    (hk : ∀ g S ρ ds a vs H1 g' H', Grow g0 H0 g H1 → EnvOk K (fun a => H0 a = none) g H1 σ ρ → Grow g H1 g' H' → StOk K S g' H' → H1 a = none → H' a = some (.lst vs) → g'.F a = none → a ∉ g'.θ → RepL K g'.F g'.θ vs ds → wp (k ds ρ) S (CP K g0 H0 g' W) (XP K mg g0 H0 E) → f (.ref a) H')
    (h : tS K mg g0 H0 E (fun ρ => m ρ >>= fun d => k d ρ) W σ H) : te σ H f := by
  obtain ⟨g, S, ρ, gr, ok, en, h⟩ := h
  exact hte _ _ _ ⟨g, S, ρ, _, ok, en, wp_mono (wp_bind.mp h) (fun d S1 h1 g1 H1 a vs gr1 ok1 n1 n2 n3 n4 r => hk g S1 ρ d a vs H g1 H1 gr en gr1 ok1 n1 n2 n3 n4 r (wp_mono h1 (fun _ _ z => z.ext gr1.ext) fun _ _ z => z)) fun _ _ z => z.grow gr⟩
/-! ### blocks -/
def sNil : SM := fun ρ => .ret (.nx ρ)
def sSeq (a b : SM) : SM := fun ρ => a ρ >>= fun c => match c with
  | .nx ρ' => b ρ'
  | c => .ret c
theorem rss_nil : RSs X g0 H0 E [] sNil := pss_weak pss_nil fun W σ H ⟨g, S, ρ, gr, ok, en, h⟩ => h g H σ gr .refl ok en
theorem rss_cons {s : Stmt} {r : List Stmt} {m n : SM} (h1 : RS X g0 H0 E s m) (h2 : RSs X g0 H0 E r n) : RSs X g0 H0 E (s :: r) (sSeq m n) := by
  refine pss_weak (pss_cons h1 h2) fun W σ H ⟨g, S, ρ, gr, ok, en, h⟩ => ⟨g, S, ρ, gr, ok, en, ?_⟩
  refine wp_mono (wp_bind.mp h) (fun c S1 h1 => ?_) fun _ _ z => z
  cases c with
  | nx ρ' => exact fun g' H' σ' gr' ex ok' en' => ⟨g', S1, ρ', gr', ok', en', wp_mono h1 (fun _ _ z => z.ext ex) fun _ _ z => z⟩
  | rt d => exact h1
  | bk ρ' => exact h1
  | ct ρ' => exact h1
theorem rss_one {s : Stmt} {m : SM} (h1 : RS X g0 H0 E s m) : RSs X g0 H0 E [s] m := pss_one h1
def sPass : SM := fun ρ => .ret (.nx ρ)
def sBrk : SM := fun ρ => .ret (.bk ρ)
def sCnt : SM := fun ρ => .ret (.ct ρ)
theorem rs_pass : RS X g0 H0 E (.Pass pos) sPass := ps_weak ps_pass fun W σ H ⟨g, S, ρ, gr, ok, en, h⟩ => h g H σ gr .refl ok en
theorem rs_brk : RS X g0 H0 E (.Break pos) sBrk := ps_weak ps_break fun W σ H ⟨g, S, ρ, gr, ok, en, h⟩ => h g H σ gr .refl ok en
theorem rs_cnt : RS X g0 H0 E (.Continue pos) sCnt := ps_weak ps_continue fun W σ H ⟨g, S, ρ, gr, ok, en, h⟩ => h g H σ gr .refl ok en
def sRet (m : Ev → M D) : SM := fun ρ => m ρ >>= fun d => .ret (.rt d)
theorem rs_ret (ha : RE X E a ma) : RS X g0 H0 E (.Return (some a) pos) (sRet ma) := ps_weak (ps_ret ha) fun W σ H h => to_e (k := fun d _ => .ret (.rt d)) (fun _ _ _ z => z) (fun g S ρ d v H' gr ok en r (z : CP X.K g0 H0 g W (.rt d) S) => z g H' v gr ok r) h
def sRetN : SM := fun ρ => .ret (.rt .non)
theorem rs_retN : RS X g0 H0 E (.Return none pos) sRetN := ps_weak ps_retN fun W σ H ⟨g, S, ρ, gr, ok, en, h⟩ => h g H _ gr ok .non
def sIf (t : Ev → M Bool) (a b : SM) : SM := fun ρ => t ρ >>= fun c => match c with
  | true => a ρ
  | false => b ρ
theorem rs_if {t : Ev → M Bool} {x y : List Stmt} {m n : SM} (hc : RT X E c t) (h1 : RSs X g0 H0 E x m) (h2 : RSs X g0 H0 E y n) : RS X g0 H0 E (.If c x y pos) (sIf t m n) := by
  refine ps_weak (ps_if hc h1 h2) fun W σ H ⟨g, S, ρ, gr, ok, en, h⟩ => ⟨g, S, ρ, _, ok, en, ?_⟩
  refine wp_mono (wp_bind.mp h) (fun d S1 h1 g1 H1 gr1 ok1 => ?_) fun _ _ z => z.grow gr
  cases d with
  | true => exact iteT ⟨g1, S1, ρ, gr.trans gr1, ok1, en.grow gr1, wp_mono h1 (fun _ _ z => z.ext gr1.ext) fun _ _ z => z⟩
  | false => exact iteF ⟨g1, S1, ρ, gr.trans gr1, ok1, en.grow gr1, wp_mono h1 (fun _ _ z => z.ext gr1.ext) fun _ _ z => z⟩
def sDrop (m : Ev → M D) : SM := fun ρ => m ρ >>= fun _ => .ret (.nx ρ)
theorem rs_drop (ha : RE X E a ma) (hs : swapsWith a none pos.line X.env = pure false := by rfl) : RS X g0 H0 E (.Expr a pos) (sDrop ma) :=
  ps_weak (ps_expr ha hs) fun W σ H h => to_e (k := fun _ ρ => .ret (.nx ρ)) (fun _ _ _ z => z) (fun g S ρ d v H' gr ok en r (z : CP X.K g0 H0 g W (.nx ρ) S) => z g H' σ gr .refl ok en) h
def sSet (i : Nat) (m : Ev → M D) : SM := fun ρ => m ρ >>= fun d => .ret (.nx (ρ.set i (.v d)))
theorem rs_set (i : Nat) {x : Str} (hN : X.N.Nodup) (ha : RE X E a ma) (hi : X.N[i]? = some x := by rfl) (hx : Loc X.env.scope x := by first | exact Or.inl rfl | exact Or.inr rfl) (hs : swapsWith a (some (.Name x py)) pos.line X.env = pure false := by rfl)
    (hf : X.fn x = true ∨ X.env.scope.names.lookup x = some .local := by first | exact .inl rfl | exact .inr rfl) : RS X g0 H0 E (.Assign [.Name x py] a pos) (sSet i ma) :=
  ps_weak (ps_set hN hi hx ha hs hf) fun W σ H h => to_e (k := fun d ρ => .ret (.nx (ρ.set i (.v d)))) (fun _ _ _ z => z) (fun g S ρ d v H' gr ok en r (z : CP X.K g0 H0 g W (.nx (ρ.set i (.v d))) S) => z g H' _ gr .refl ok (en.setv i r)) h
def sOwn (i : Nat) (m : Ev → M (List D)) : SM := fun ρ => m ρ >>= fun ds => .ret (.nx (ρ.set i (.own ds)))
theorem rs_own (i : Nat) {x : Str} {m : Ev → M (List D)} (hN : X.N.Nodup) (ha : RN X E a m) (hi : X.N[i]? = some x := by rfl) (hx : Loc X.env.scope x := by first | exact Or.inl rfl | exact Or.inr rfl) (hs : swapsWith a (some (.Name x py)) pos.line X.env = pure false := by rfl)
    (hf : X.fn x = true ∨ X.env.scope.names.lookup x = some .local := by first | exact .inl rfl | exact .inr rfl) : RS X g0 H0 E (.Assign [.Name x py] a pos) (sOwn i m) :=
  ps_weak (ps_set hN hi hx ha hs hf) fun W σ H h => to_n (k := fun ds ρ => .ret (.nx (ρ.set i (.own ds)))) (fun _ _ _ z => z) (fun g S ρ ds a vs H1 g' H' gr en gr1 ok n1 n2 n3 n4 r (z : CP X.K g0 H0 g' W (.nx (ρ.set i (.own ds))) S) => z g' H' _ (gr.trans gr1) .refl ok (en.seto gr1 i n1 n2 n3 n4 r (gr.dom _ n1))) h
/-- any target -/
def sAsg (gm : GM) (m : Ev → M D) : SM := fun ρ => m ρ >>= fun d => match gm d ρ with
  | some ρ' => .ret (.nx ρ')
  | none => .bad
theorem rs_asg {tg : Expr} {ts : List Nat} {gm : GM} (ha : RE X E a ma) (hg : RG X tg ts gm) (hs : swapsWithSole [tg] a pos.line X.env = pure false := by rfl) (hw : swappedStores [tg] a X.env = pure none := by rfl)
    (h1 : (assignEach [tg] X.env).map (·.2) = [assign tg X.env] := by rfl) : RS X g0 H0 E (.Assign [tg] a pos) (sAsg gm ma) := by
  refine ps_weak (ps_asg ha hg hs hw h1) fun W σ H h => to_e (k := fun d ρ => match gm d ρ with | some ρ' => .ret (.nx ρ') | none => .bad) (fun _ _ _ z => z) (fun g S ρ d v H' gr ok en r z => ?_) h
  cases e : gm d ρ with
  | none => rw [e] at z; exact z.elim
  | some ρ' =>
    rw [e] at z
    exact ⟨g, S, ρ, _, d, ρ', ok, en, r, e, fun σ' en' _ _ => z g H' σ' gr .refl ok en'⟩
/-- a, b = x, y -/
def sPar (i j : Nat) (mas : Ev → M (List D)) : SM := fun ρ => mas ρ >>= fun ds => match ds with
  | [d, e] => .ret (.nx ((ρ.set i (.v d)).set j (.v e)))
  | _ => .bad
theorem rs_par (i j : Nat) {x y : Str} {px py pt : Pos} {kt k2 pt2} {mas : Ev → M (List D)} (hc : X.calm = true) (hN : X.N.Nodup) (ha : RA X E [a, b] mas) (hi : X.N[i]? = some x := by rfl) (hj : X.N[j]? = some y := by rfl) (hij : i ≠ j := by decide)
    (hx : X.env.scope.names.lookup x = some .local := by rfl) (hy : X.env.scope.names.lookup y = some .local := by rfl)
    (hw : swappedStores [.Tuple [.Name x px, .Name y py] kt pt] (.Tuple [a, b] k2 pt2) X.env = pure (some [x, y]) := by rfl)
    (hs : swapsWithSole [.Tuple [.Name x px, .Name y py] kt pt] (.Tuple [a, b] k2 pt2) pos.line X.env = pure false := by rfl) :
    RS X g0 H0 E (.Assign [.Tuple [.Name x px, .Name y py] kt pt] (.Tuple [a, b] k2 pt2) pos) (sPar i j mas) := by
  refine ps_weak (ps_par hc hN hi hj hij hx hy ha hw hs) fun W σ H ⟨g, S, ρ, gr, ok, en, h⟩ => ⟨g, S, ρ, _, ok, en, ?_⟩
  refine wp_mono (wp_bind.mp h) (fun ds S1 h1 g1 H1 vs gr1 ok1 r => ?_) fun _ _ z => z.grow gr
  match ds, h1 with
  | [d, e], h1 =>
    obtain ⟨v, w, rfl, rv, rw_⟩ := repL_two r
    exact ⟨v, w, rfl, h1 g1 H1 _ (gr.trans gr1) gr1.ext ok1 (((en.grow gr1).setv i rv).setv j rw_)⟩
  | [], h1 => exact h1.elim
  | [_], h1 => exact h1.elim
  | _ :: _ :: _ :: _, h1 => exact h1.elim
/-- name op= e -/
def sAug (i : Nat) (om : D → D → M D) (m : Ev → M D) : SM := fun ρ => match ρ[i]? with
  | some (.v d) => m ρ >>= fun e => om d e >>= fun f => .ret (.nx (ρ.set i (.v f)))
  | _ => .bad
theorem rs_augAdd (i : Nat) {x : Str} {px : Pos} (hN : X.N.Nodup) (ha : RE X E a ma) (hi : X.N[i]? = some x := by rfl) (hx : Loc X.env.scope x := by first | exact Or.inl rfl | exact Or.inr rfl)
    (hf : X.fn x = true ∨ X.env.scope.names.lookup x = some .local := by first | exact .inl rfl | exact .inr rfl) : RS X g0 H0 E (.AugAssign (.Name x px) .Add a pos) (sAug i (fun d e => match d, e with | .int i, .int j => .ret (.int (i + j)) | _, _ => .bad) ma) := by
  refine ps_weak (ps_aug hN hi hx ha ip_add hf) fun W σ H ⟨g, S, ρ, gr, ok, en, h⟩ => ?_
  unfold sAug at h
  split at h
  · rename_i d e
    obtain ⟨sv, h1, v, rfl, r⟩ := slot_of en e
    refine ⟨v, h1, g, S, ρ, _, ok, en, wp_mono (wp_bind.mp h) (fun d2 S1 h2 g1 H1 v2 gr1 ok1 r2 => ?_) fun _ _ z => z.grow gr⟩
    cases d with
    | int i1 =>
      cases d2 with
      | int i2 =>
        cases r; cases r2
        exact ⟨i1, i2, rfl, rfl, h2 g1 H1 _ (gr.trans gr1) gr1.ext ok1 ((en.grow gr1).setv i (.int _))⟩
      | _ => exact h2.elim
    | _ => cases d2 <;> exact h2.elim
  · exact h.elim
/-! ### one's own lists -/
def sFrz (i : Nat) (s : SM) : SM := fun ρ => s (match ρ[i]? with
  | some (.own ds) => ρ.set i (.v (.lst ds))
  | _ => ρ)
theorem rs_frz (i : Nat) {s : Stmt} {m : SM} (h : RS X g0 H0 E s m) : RS X g0 H0 E s (sFrz i m) := by
  refine ps_weak h fun W σ H ⟨g, S, ρ, gr, ok, en, h⟩ => ?_
  unfold sFrz at h
  split at h
  · rename_i ds e
    obtain ⟨sv, h1, a, vs, rfl, ha, r, hL, hF, hθ⟩ := slot_of en e
    refine ⟨⟨upd g.F a (.lst vs), g.θ⟩, S, _, ⟨gr.dom, gr.keep, gr.th, fun b o e => upd_fm hF b o (gr.fm b o e), fun b o e => ?_⟩, ok.froze ha hF hθ, en.froze e h1 ha hF r, wp_mono h (fun _ _ z => z.ext ⟨upd_fm hF, fun _ _ z => z⟩) fun _ _ z => z⟩
    by_cases hb : b = a
    · subst hb; exact .inr hL
    · have e : upd g.F a (.lst vs) b = some o := e
      rw [upd_ne hb] at e; exact gr.fn b o e
  · exact ⟨g, S, ρ, gr, ok, en, h⟩
theorem Grow.wroteo {g g1 : Gw} {H H1 : Hp} {p : Addr} {o : HO} (gr : Grow g H g1 H1) (hp : H p = none) : Grow g H g1 (upd H1 p o) := gr.wrote hp
def sApp (i : Nat) (m : Ev → M D) : SM := fun ρ => match ρ[i]? with
  | some (.own ds) => m ρ >>= fun d => if ds.length < sizeLine then .ret (.nx (ρ.set i (.own (ds ++ [d])))) else .bad
  | _ => .bad
variable {apos cpos px : Pos} {x : Str}
theorem rs_append (i : Nat) (ha : RE X E a ma) (hN : X.N[i]? = some x := by rfl) (hv : Vis X.env.scope x := by first | exact Or.inl rfl | exact Or.inr (Or.inl rfl) | exact Or.inr (Or.inr rfl)) (hd : (x == ("__debug__" : Str)) = false := by decide)
    (hcd : (x == ("__classdict__" : Str)) = false := by decide) (hbase : attributeBase (.Name x px) "append" X.env (eval (.Name x px) X.env) = eval (.Name x px) X.env := by rfl)
    (hfew : ((backTo cpos (starEach [a] X.env)).all (fun x => !x.1) && (backToKw cpos (keywordEach [] X.env)).all (fun x => x.1.isSome) && decide (([a] : List Expr).length + ([] : List Keyword).length + (if ([] : List Keyword).isEmpty then 0 else 1) < 30)) = true := by rfl)
    (hline : (apos.endLine == cpos.line) = true := by rfl) (hs : starEach [a] X.env = (false, eval a X.env) :: starEach [] X.env := by rfl) (hplain : (backTo cpos (starEach [] X.env)).any (·.1) = false := by rfl)
    (hsw : swapsWith (.Call (.Attribute (.Name x px) "append" apos) [a] [] cpos) none pos.line X.env = pure false := by rfl) : RS X g0 H0 E (.Expr (.Call (.Attribute (.Name x px) "append" apos) [a] [] cpos) pos) (sApp i ma) := by
  refine ps_weak (ps_expr (pe_bm PySem.F.plainAttrs_list PySem.F.slot_list_append PySem.F.type_list_append mt_append (pe_var hN hv hd hcd) (pa_cons ha pa_nil hs) hbase hfew hline hs hplain) hsw) fun W σ H ⟨g, S, ρ, gr, ok, en, h⟩ => ?_
  unfold sApp at h
  split at h
  · rename_i ds e
    obtain ⟨sv, h1, l, vs, rfl, hl, r, hL, hF, hθ⟩ := slot_of en e
    refine ⟨_, h1, .inl ⟨rfl, vs, SqL.of hl⟩, g, S, ρ, _, ok, en, wp_mono (wp_bind.mp h) (fun d S1 h2 g1 H1 v gr1 ok1 rv => ?_) fun _ _ z => z.grow gr⟩
    obtain ⟨hz, h2⟩ := wp_guard h2
    have hl1 := gr1.keep _ _ hl hθ
    have own1 := (show OwnAt g (fun a => H0 a = none) l from ⟨hL, hF, hθ⟩).grow hl gr1
    have en1 := en.grow gr1
    exact ⟨l, vs, v, rfl, rfl, hl1, by rw [r.length]; exact hz, h2 g1 _ σ ((gr.trans gr1).wrote hL) gr1.ext (ok1.wrote hl1 own1.2.1 own1.2.2) (en1.wroteo e h1 ((gr1.repL r).append (.cons rv .nil)))⟩
  · exact h.elim
def sExt (i : Nat) (m : Ev → M D) : SM := fun ρ => match ρ[i]? with
  | some (.own ds) => m ρ >>= fun d => match d with
    | .lst es => if ds.length + es.length ≤ sizeLine then .ret (.nx (ρ.set i (.own (ds ++ es)))) else .bad
    | _ => .bad
  | _ => .bad
theorem rs_extend (i : Nat) (ha : RE X E a ma) (hN : X.N[i]? = some x := by rfl) (hv : Vis X.env.scope x := by first | exact Or.inl rfl | exact Or.inr (Or.inl rfl) | exact Or.inr (Or.inr rfl)) (hd : (x == ("__debug__" : Str)) = false := by decide)
    (hcd : (x == ("__classdict__" : Str)) = false := by decide) (hbase : attributeBase (.Name x px) "extend" X.env (eval (.Name x px) X.env) = eval (.Name x px) X.env := by rfl)
    (hfew : ((backTo cpos (starEach [a] X.env)).all (fun x => !x.1) && (backToKw cpos (keywordEach [] X.env)).all (fun x => x.1.isSome) && decide (([a] : List Expr).length + ([] : List Keyword).length + (if ([] : List Keyword).isEmpty then 0 else 1) < 30)) = true := by rfl)
    (hline : (apos.endLine == cpos.line) = true := by rfl) (hs : starEach [a] X.env = (false, eval a X.env) :: starEach [] X.env := by rfl) (hplain : (backTo cpos (starEach [] X.env)).any (·.1) = false := by rfl)
    (hsw : swapsWith (.Call (.Attribute (.Name x px) "extend" apos) [a] [] cpos) none pos.line X.env = pure false := by rfl) : RS X g0 H0 E (.Expr (.Call (.Attribute (.Name x px) "extend" apos) [a] [] cpos) pos) (sExt i ma) := by
  refine ps_weak (ps_expr (pe_bm PySem.F.plainAttrs_list PySem.F.slot_list_extend PySem.F.type_list_extend mt_extend (pe_var hN hv hd hcd) (pa_cons ha pa_nil hs) hbase hfew hline hs hplain) hsw) fun W σ H ⟨g, S, ρ, gr, ok, en, h⟩ => ?_
  unfold sExt at h
  split at h
  · rename_i ds e
    obtain ⟨sv, h1, l, vs, rfl, hl, r, hL, hF, hθ⟩ := slot_of en e
    refine ⟨_, h1, .inl ⟨rfl, vs, SqL.of hl⟩, g, S, ρ, _, ok, en, wp_mono (wp_bind.mp h) (fun d S1 h2 g1 H1 v gr1 ok1 rv => ?_) fun _ _ z => z.grow gr⟩
    cases d with
    | lst es =>
      obtain ⟨hz, h2⟩ := wp_guard h2
      obtain ⟨b, ws, rfl, hb, rb⟩ := rep_refL rv
      have hl1 := gr1.keep _ _ hl hθ
      have own1 := (show OwnAt g (fun a => H0 a = none) l from ⟨hL, hF, hθ⟩).grow hl gr1
      have en1 := en.grow gr1
      exact ⟨l, b, vs, ws, rfl, rfl, hl1, ok1.sub _ _ hb, by rw [r.length, rb.length]; exact hz, h2 g1 _ σ ((gr.trans gr1).wrote hL) gr1.ext (ok1.wrote hl1 own1.2.1 own1.2.2) (en1.wroteo e h1 ((gr1.repL r).append rb))⟩
    | _ => exact h2.elim
  · exact h.elim
/-! ### for -/
def forM (gm : GM) (body : SM) : List D → SM
  | [], ρ => .ret (.nx ρ)
  | d :: ds, ρ => match gm d ρ with
    | some ρ' => body ρ' >>= fun c => match c with
      | .nx ρ2 => forM gm body ds ρ2
      | .ct ρ2 => forM gm body ds ρ2
      | .bk ρ2 => .ret (.nx ρ2)
      | .rt d => .ret (.rt d)
    | none => .bad
def sFor (it : Ev → M (List D)) (gm : GM) (body : SM) : SM := fun ρ => it ρ >>= fun ds => forM gm body ds ρ
theorem rs_for {tg iter : Expr} {body : List Stmt} {it : Ev → M (List D)} {gm : GM} {ts : List Nat} {bm : SM} (hp : PassesOwn (model X.prog X.w) X.A X.env X.xe) (hc : X.calm = true) (hi : RI X E tg iter it) (hg : RG X tg ts gm) (hb : RSs X g0 H0 E body bm)
    (hs : ∀ x, foldedSetIterable iter X.env x = pure x := by intro _; rfl) : RS X g0 H0 E (.For tg iter body [] pos) (sFor it gm bm) := by
  refine ps_weak (ps_for hp hc hi hg hb hs) fun W σ H ⟨g, S, ρ, gr, ok, en, h⟩ => ⟨g, S, ρ, _, ok, en, wp_mono (wp_bind.mp h) (fun ds S1 h1 g1 H1 J gr1 ok1 yl => ?_) fun _ _ z => z.grow gr⟩
  refine ⟨fun i m σ' H' => i + m = ds.length ∧ ∃ g' S' ρ', Grow g0 H0 g' H' ∧ Ext g1 g' ∧ StOk X.K S' g' H' ∧ EnvOk X.K (fun a => H0 a = none) g' H' σ' ρ' ∧ wp (forM gm bm (ds.drop i) ρ') S' (CP X.K g0 H0 g' W) (XP X.K X.mg g0 H0 E),
    ⟨ds.length, by omega, g1, S1, ρ, gr.trans gr1, .refl, ok1, en.grow gr1, by simpa using wp_mono h1 (fun _ _ z => z.ext gr1.ext) fun _ _ z => z⟩, ?_⟩
  rintro i m σ' H' ⟨him, g', S', ρ', gr0, ex, ok', en', hw⟩
  by_cases hlt : i < ds.length
  · right
    have ei : ds[i]? = some ds[i] := List.getElem?_eq_getElem hlt
    obtain ⟨go, yy⟩ := yl.go g' H' i ds[i] S' ex ok' ei
    rw [drop_cons ei] at hw
    refine ⟨go, fun σ2 H2 => ∃ g2 S2 ρ2, Grow g0 H0 g2 H2 ∧ Ext g1 g2 ∧ StOk X.K S2 g2 H2 ∧ EnvOk X.K (fun a => H0 a = none) g2 H2 σ2 ρ2 ∧ wp (forM gm bm (ds.drop (i + 1)) ρ2) S2 (CP X.K g0 H0 g2 W) (XP X.K X.mg g0 H0 E), fun σ2 H2 hN => ⟨m - 1, by omega, by omega, hN⟩, fun x H2 hy => ?_⟩
    obtain ⟨g2, gr3, ok3, rx⟩ := yy x H2 hy
    have hw : wp (match gm ds[i] ρ' with
      | some ρ' => bm ρ' >>= fun c => (match c with
        | .nx ρ2 => forM gm bm (ds.drop (i + 1)) ρ2
        | .ct ρ2 => forM gm bm (ds.drop (i + 1)) ρ2
        | .bk ρ2 => M.ret (.nx ρ2)
        | .rt d => .ret (.rt d))
      | none => .bad) S' (CP X.K g0 H0 g' W) (XP X.K X.mg g0 H0 E) := hw
    cases egm : gm ds[i] ρ' with
    | none => rw [egm] at hw; exact hw.elim
    | some ρ1 =>
      rw [egm] at hw
      refine ⟨g2, S', ρ', _, ds[i], ρ1, ok3, en'.grow gr3, rx, egm, fun σ3 en3 _ _ => ⟨g2, S', ρ1, gr0.trans gr3, ok3, en3, wp_mono (wp_bind.mp hw) (fun c S4 h4 => ?_) fun _ _ z => z⟩⟩
      cases c with
      | nx ρ2 => exact fun g4 H4 σ4 gr4 ex4 ok4 en4 => ⟨g4, S4, ρ2, gr4, (ex.trans gr3.ext).trans ex4, ok4, en4, wp_mono h4 (fun _ _ z => z.ext (gr3.ext.trans ex4)) fun _ _ z => z⟩
      | ct ρ2 => exact fun g4 H4 σ4 gr4 ex4 ok4 en4 => ⟨g4, S4, ρ2, gr4, (ex.trans gr3.ext).trans ex4, ok4, en4, wp_mono h4 (fun _ _ z => z.ext (gr3.ext.trans ex4)) fun _ _ z => z⟩
      | bk ρ2 => exact fun g4 H4 σ4 gr4 ex4 ok4 en4 => h4 g4 H4 σ4 gr4 (gr3.ext.trans ex4) ok4 en4
      | rt d => exact h4
  · left
    have e : i = ds.length := by omega
    subst e
    refine ⟨yl.stop g' H' _ S' ex ok' (Nat.le_refl _), ?_⟩
    rw [List.drop_length] at hw
    exact hw g' H' σ' gr0 .refl ok' en'
end
end F
namespace F
open PySem PySem.Spec PyProof.Rows L2
/-! ## defs: what a def keeps where no guard stands around -/
structure FnG (P : Program) (w : World) (K : PySem.W.Frag) (mg : Str → Option Value) (base : Heap) (k : Nat) (f : Addr) (fd : FuncData) (ps : List Str) (sp : Sp) : Prop where
  len : ∀ vs H Q E, sp vs H Q E → vs.length = ps.length
  go : ∀ (A : Around) (outer : List PySem.Env) (s : Shared) (H : Hp) (args : Args) (us : List Value) (vs : List V) (Q : VK) (E : XK), Room k A → A.guards = some [] → Env0 P w K mg base A outer s H → BindsTo s fd args (ps.zip us) → Vals vs us → sp vs H Q E →
    codeAny (model P w) A (.call (.ref f) args) (CR (L2.CX P w) outer P w H s Q E) s
theorem FnG.mono {P : Program} {w : World} {K : PySem.W.Frag} {mg : Str → Option Value} {base : Heap} {j k : Nat} {f : Addr} {fd : FuncData} {ps : List Str} {sp : Sp} (F : FnG P w K mg base j f fd ps sp) (h : j ≤ k) : FnG P w K mg base k f fd ps sp :=
  ⟨F.len, fun A outer s H args us vs Q E hr => F.go A outer s H args us vs Q E (hr.mono h)⟩
theorem FnG.of {P : Program} {w : World} {K : PySem.W.Frag} {mg : Str → Option Value} {base : Heap} {k : Nat} {f : Addr} {fd : FuncData} {ps : List Str} {sp : Sp} (F : FnOk P w K mg base (L2.CX P w) k f fd ps sp) : FnG P w K mg base k f fd ps sp :=
  ⟨F.len, fun A outer s H args us vs Q E hr _ => F.run A outer s H args us vs Q E hr⟩
/-- the promise of a def by its function of data -/
def spM (K : PySem.W.Frag) (mg : Str → Option Value) (n : Nat) (fM : List D → M D) : Sp := fun vs H Q E => vs.length = n ∧ rDL K mg E fM vs H Q
def startE (n : Nat) (ds : List D) : Ev := ds.map Sl.v ++ List.replicate (n - ds.length) Sl.no
/-- a body run at its arguments -/
def runB (n : Nat) (bm : SM) (ds : List D) : M D := bm (startE n ds) >>= fun c => match c with
  | .rt d => .ret d
  | .nx _ => .ret .non
  | _ => .bad
theorem start_ok {K : PySem.W.Frag} {L : Addr → Prop} {g : Gw} {H : Hp} {N : List Str} {vs : List V} {ds : List D} (r : RepL K g.F g.θ vs ds) : EnvOk K L g H (start N vs) (startE N.length ds) := by
  have hl := r.length
  unfold L2.start startE
  refine ⟨by simp [hl], fun i sv sl h1 h2 => ?_, fun i j a x y _ _ _ h3 _ h5 _ => ?_⟩
  · by_cases hi : i < ds.length
    · rw [List.getElem?_append_left (by simpa [hl] using hi), List.getElem?_map] at h1
      rw [List.getElem?_append_left (by simpa using hi), List.getElem?_map, List.getElem?_eq_getElem hi] at h2
      obtain ⟨v, e, rv⟩ := r.get (List.getElem?_eq_getElem hi)
      rw [e] at h1
      cases h1; cases h2
      exact ⟨v, rfl, rv⟩
    · rw [List.getElem?_append_right (by simpa using hi), List.getElem?_replicate] at h2
      split at h2
      · cases h2; trivial
      · cases h2
  · by_cases hi : i < ds.length
    · rw [List.getElem?_append_left (by simpa using hi), List.getElem?_map, List.getElem?_eq_getElem hi] at h3
      cases h3; cases h5
    · rw [List.getElem?_append_right (by simpa using hi), List.getElem?_replicate] at h3
      split at h3
      · cases h3; cases h5
      · cases h3
/-- a def's context -/
structure Def0 (X : Cx) (E : XK) (k : Nat) : Prop where
  calm : X.calm = true
  tk : Takes X (fun c d _ H => E c d H)
  room : Room k X.A
  po : PassesOwn (model X.prog X.w) X.A X.env X.xe
theorem Def0.units {X : Cx} {E : XK} {k : Nat} (d : Def0 X E k) : X.A.units + 65 < cLine := by have := d.room.un; omega
section
variable {P : Program} {w : World} {K : PySem.W.Frag} {mg : Str → Option Value} {base : Heap} {x qual : Str} {params : Arguments} {body : List Stmt} {scope : Scope} {dvs : List V} {kws : List (Str × V)} {f : Addr} {fd : FuncData} {N ps : List Str} {k n : Nat} {bm : SM}
/-- the reading of a whole body -/
theorem body_go {E : XK} {Q : VK} {H : Hp} {vs : List V} (h : rDL K mg E (runB N.length bm) vs H Q) : ∃ g, tS K mg g H E bm { nx := fun _ H' => Q .non H', rt := Q } (start N vs) H := by
  obtain ⟨g, S, ds, ok, r, h⟩ := h
  refine ⟨g, g, S, startE N.length ds, .refl, ok, start_ok r, wp_mono (wp_bind.mp h) (fun c S1 h1 => ?_) fun _ _ z => z⟩
  cases c with
  | nx ρ => exact fun g' H' σ' gr _ ok' _ => h1 g' H' _ gr ok' .non
  | rt d => exact fun g' H' v gr ok' r => h1 g' H' v gr ok' r
  | bk ρ => exact h1.elim
  | ct ρ => exact h1.elim
/-- THE RULE: a def by its body, without guards -/
theorem fnG (F : FunD K x qual params body scope dvs kws f fd) (S : FnScope N ps scope)
    (hb : ∀ (X : Cx) (g0 : Gw) (H0 : Hp) (E : XK), X.prog = P → X.w = w → X.K = K → X.mg = mg → X.base = base → X.N = N → X.env.scope = scope → X.env.qual = qual ++ ".<locals>." → (∀ y, X.fn y = true) → Def0 X E k → X.A.guards = some [] → RSs X g0 H0 E body bm) : FnG P w K mg base (k + 1) f fd ps (spM K mg ps.length (runB N.length bm)) := by
  obtain ⟨oc, od, dV, kV, doc, pm, an, cdv, ct, osl, rfl, lk, hcd, _, _⟩ := F.ex
  refine ⟨fun vs H Q E h => h.1, fun A outer s H args us vs Q E hr hgd e0 hbd r hsp => ?_⟩
  have hl := hsp.1
  have keep : ∀ b o, base.get? b = some o → s.heap.get? b = some o := fun b o e => (e0.bs b o e).1
  have hkind : ∀ y ∈ ps.zip us, scope.names.lookup y.1 = some .local ∨ (scope.names.lookup y.1 = some .cell ∧ ((cellsFrom (s.heap.objs.size + 1) scope.names []).lookup y.1).isSome = true) := by
    rintro ⟨y, v⟩ hy
    rcases S.par y (List.of_mem_zip hy).1 with q | q
    · exact .inl q
    · exact .inr ⟨q, PySem.W.cellsFrom_some _ _ _ (.inl q)⟩
  refine codeAny_call_function hr.depth (e0.mod.kin.keeps keep _ _ lk) rfl S.co S.gen rfl (PySem.W.codeRec_of (e0.mod.kin.keeps keep) hcd) (hbd _ _ _ _ (wpAny_newFunctionEnv_cells S.kind hkind fun env he s1 x => ?_))
  subst he
  refine ⟨(e0.mod.nolimit.keeps keep).keeps x.toInCall.keep, codeAny_func ?_⟩
  have I : Inv (cxOf (L2.CX P w) P w K mg base N qual scope f cdv A outer s H E) [] (start N vs) H s1 := inv_start S hr.hd e0 hl r x
  obtain ⟨g, hq⟩ := body_go hsp.2
  have d0 : Def0 (cxOf (L2.CX P w) P w K mg base N qual scope f cdv A outer s H E) E k := ⟨rfl, takes_of rfl rfl rfl rfl, hr.deeper _, passes_of rfl⟩
  have ht := hb (cxOf (L2.CX P w) P w K mg base N qual scope f cdv A outer s H E) g H E rfl rfl rfl rfl rfl rfl rfl rfl (fun _ => rfl) d0 hgd
  refine wpAny_mono (ht.run [] s1 (start N vs) H _ I hq) (fun fl s' hs => ?_) fun e s' hs => hs
  cases fl with
  | ret u => obtain ⟨v, σ', H', J, rv, q⟩ := hs; exact ⟨v, H', J.os, J.bare, J.base, J.hok, rv, q⟩
  | next => obtain ⟨σ', H', J, q⟩ := hs; exact ⟨V.non, H', J.os, J.bare, J.base, J.hok, rfl, q⟩
  | brk => obtain ⟨_, _, _, q⟩ := hs; exact q.elim
  | cont => obtain ⟨_, _, _, q⟩ := hs; exact q.elim
/-- the same whatever stands around -/
theorem fnO (F : FunD K x qual params body scope dvs kws f fd) (S : FnScope N ps scope)
    (hb : ∀ (X : Cx) (g0 : Gw) (H0 : Hp) (E : XK), X.prog = P → X.w = w → X.K = K → X.mg = mg → X.base = base → X.N = N → X.env.scope = scope → X.env.qual = qual ++ ".<locals>." → (∀ y, X.fn y = true) → Def0 X E k → RSs X g0 H0 E body bm) : FnOk P w K mg base (L2.CX P w) (k + 1) f fd ps (spM K mg ps.length (runB N.length bm)) :=
  FunD.ok F S (fun vs H Q E h => h.1) fun cdv A outer s H vs Q E hr hsp => by
    obtain ⟨g, hq⟩ := body_go hsp.2
    exact ⟨_, hb (cxOf (L2.CX P w) P w K mg base N qual scope f cdv A outer s H E) g H E rfl rfl rfl rfl rfl rfl rfl rfl (fun _ => rfl) ⟨rfl, takes_of rfl rfl rfl rfl, hr, passes_of rfl⟩, hq⟩
end
/-! ## calls -/
/-- a def of the module that may be called: level k, n parameters -/
structure Fnc (P : Program) (w : World) (K : PySem.W.Frag) (mg : Str → Option Value) (base : Heap) (k : Nat) (x : Str) (n : Nat) (fM : List D → M D) : Prop where
  ex : ∃ (f : Addr) (fd : FuncData) (ps : List Str), FnG P w K mg base k f fd ps (spM K mg n fM) ∧ mg x = some (.ref f) ∧ PySem.W.keepIn K (.ref f) = true ∧ Binds K fd ps [] ∧ ps.length = n
/-- .. whatever stands around -/
structure Fno (P : Program) (w : World) (K : PySem.W.Frag) (mg : Str → Option Value) (base : Heap) (k : Nat) (x : Str) (n : Nat) (fM : List D → M D) : Prop where
  ex : ∃ (f : Addr) (fd : FuncData) (ps : List Str), FnOk P w K mg base (L2.CX P w) k f fd ps (spM K mg n fM) ∧ mg x = some (.ref f) ∧ PySem.W.keepIn K (.ref f) = true ∧ Binds K fd ps [] ∧ ps.length = n
theorem Fno.c {P : Program} {w : World} {K : PySem.W.Frag} {mg : Str → Option Value} {base : Heap} {k : Nat} {x : Str} {n : Nat} {fM : List D → M D} (h : Fno P w K mg base k x n fM) : Fnc P w K mg base k x n fM := by
  obtain ⟨f, fd, ps, F, r⟩ := h.ex
  exact ⟨f, fd, ps, .of F, r⟩
/-- what a call asks of the context -/
structure Cal (X : Cx) (E : XK) (k : Nat) : Prop where
  ps : Passes (L2.CX X.prog X.w) X E
  room : Room k X.A
theorem Def0.cal {X : Cx} {E : XK} {k : Nat} (d : Def0 X E k) : Cal X E k := ⟨passes_call d.tk fun _ _ _ _ h => h, d.room⟩
theorem cal_blk {X : Cx} {E : XK} {k : Nat} (d : Def0 X E k) (s : Shared) (H : Hp) (scope : Scope) (cenv : PySem.Env) (fp : List Addr) : Cal (X.blk s H scope cenv fp) E0 k :=
  ⟨fun _ _ _ _ _ _ _ ⟨_, _, _, _, _, _, _, _, _, _, _, _, e⟩ => e.elim, d.room⟩
section
variable {X : Cx} {E : XK} {j k n : Nat} {x : Str} {fM : List D → M D} {e : Expr} {es : List Expr} {p pos : Pos} {mas : Ev → M (List D)}
def eF (n : Nat) (fM : List D → M D) (mas : Ev → M (List D)) : Ev → M D := fun ρ => mas ρ >>= fun ds => if ds.length = n then fM ds else .bad
theorem callG_go {f : Addr} {fd : FuncData} {ps : List Str} (F : FnG X.prog X.w X.K X.mg X.base k f fd ps (spM X.K X.mg n fM)) (c : Cal X E k) (gd : X.A.guards = some []) (hb : Binds X.K fd ps []) : CallR X (.ref f) (spM X.K X.mg n fM · · · E) := by
  intro pins s σ H vs us Q I r h
  have hl : us.length = ps.length := by rw [← r.length]; exact F.len _ _ _ _ h
  have b := hb s us I.kIn (by rw [List.append_nil]; exact hl)
  rw [List.append_nil] at b
  refine wpAny_call (codeAny_mono (F.go X.A X.stack s H ⟨us, []⟩ us vs Q E c.room gd I.env0 b r h) fun r s' hq => ?_)
  match r, hq with
  | .error e, hq => exact c.ps pins σ H s e s' I hq
  | .ok (.ret u), hq => exact I.after hq
  | .ok .next, hq => exact hq.elim
  | .ok .brk, hq => exact hq.elim
  | .ok .cont, hq => exact hq.elim
theorem re_f0 {f : Addr} (hc : CallR X (.ref f) (spM X.K X.mg n fM · · · E)) (hg : Gl X x) (hm : X.mg x = some (.ref f)) (hk : PySem.W.keepIn X.K (.ref f) = true) (ha : RA X E (e :: es) mas) (hdb : (x == ("__debug__" : Str)) = false := by decide)
    (he : starEach (e :: es) X.env = (false, eval e X.env) :: starEach es X.env := by rfl) (hpl : (backTo pos (starEach es X.env)).any (·.1) = false := by rfl) : RE X E (.Call (.Name x p) (e :: es) [] pos) (eF n fM mas) := by
  refine ⟨fun pins s σ H Q I ⟨g, S, ρ, L, ok, en, h⟩ => ?_⟩
  refine wpAny_Call_Name_kw (ld_glob I hg hm (PySem.W.callWith_K (h₀ := X.base) I.ok.mod.kin hk (thn (ha.run pos pins s σ H (fun vs H1 => spM X.K X.mg n fM vs H1 Q E) I ⟨g, S, ρ, L, ok, en, wp_mono (wp_bind.mp h) (fun ds S1 h1 g1 H1 vs gr ok1 r => ?_) fun _ _ z => z⟩) fun us s1 ⟨vs, H1, I1, r, q⟩ => ⟨I1.kIn, hc pins s1 σ H1 vs us Q I1 r q⟩) he hpl) hdb)
  obtain ⟨hz, h1⟩ := wp_guard h1
  exact ⟨r.length.trans hz, g1, S1, ds, ok1, r, wp_mono h1 (fun _ _ z => z.grow gr) fun _ _ z => z.grow gr⟩
/-- f(e, ..) -/
theorem re_f (fn : Fnc X.prog X.w X.K X.mg X.base j x n fM) (c : Cal X E k) (gd : X.A.guards = some []) (hjk : j ≤ k) (hg : Gl X x) (ha : RA X E (e :: es) mas) (hdb : (x == ("__debug__" : Str)) = false := by decide)
    (he : starEach (e :: es) X.env = (false, eval e X.env) :: starEach es X.env := by rfl) (hpl : (backTo pos (starEach es X.env)).any (·.1) = false := by rfl) : RE X E (.Call (.Name x p) (e :: es) [] pos) (eF n fM mas) := by
  obtain ⟨f, fd, ps, G, hm, hk, hb, hn⟩ := fn.ex
  exact re_f0 (callG_go (G.mono hjk) c gd hb) hg hm hk ha hdb he hpl
theorem re_fo (fn : Fno X.prog X.w X.K X.mg X.base j x n fM) (c : Cal X E k) (hjk : j ≤ k) (hg : Gl X x) (ha : RA X E (e :: es) mas) (hdb : (x == ("__debug__" : Str)) = false := by decide)
    (he : starEach (e :: es) X.env = (false, eval e X.env) :: starEach es X.env := by rfl) (hpl : (backTo pos (starEach es X.env)).any (·.1) = false := by rfl) : RE X E (.Call (.Name x p) (e :: es) [] pos) (eF n fM mas) := by
  obtain ⟨f, fd, ps, G, hm, hk, hb, hn⟩ := fn.ex
  refine re_f0 (fun pins s σ H vs us Q I r h => run_fn (ds := []) (dvs := []) (G.mono hjk) c.room hb .nil c.ps I r (by rw [List.append_nil]; exact h)) hg hm hk ha hdb he hpl
end
end F
namespace L2
open PySem PySem.Spec PyProof.Rows
section
variable {P : Program} {w : World} {A : Around} {E : Value → Shared → Prop} {s : Shared}
def eS (w : World) : Obj := { cls := .type "set", dict := none, data := .set #[] 0 (.fresh 0 0 (!w.params.followText "set-order")) }
theorem eS_def (w : World) : eS w = { cls := .type "set", dict := none, data := .set #[] 0 (.fresh 0 0 (!w.params.followText "set-order")) } := rfl
/-- set(a list of ints), led -/
theorem set_lstI {l : Addr} {xs : Array Value} (ns : List Int) {Q : Value → Shared → Prop} (hn : A.handled = none) (hL : s.heap.IsList l xs) (hI : IntsAre xs.toList ns) (hb : ns.length + 1 < scanBound)
    (hQ : ∀ (g : Heap) (k c : Nat), SetR w g s.heap.objs.size (fun j => decide (j ∈ ns)) c → c ≤ ns.length → (∀ b o, s.heap.get? b = some o → g.get? b = some o) → Q (.ref s.heap.objs.size) { s with heap := g, toks := k }) :
    wpAny (model P w) A (call (.type "set") [.ref l]) Q E s := by
  have hz : xs.size = ns.length := by have z := IntsAre.length hI; rwa [Array.length_toList] at z
  obtain ⟨c0, tl0, mro0⟩ := PySem.F.called_set.mro
  have m0 := PySem.F.called_set.made
  have m1 := PySem.F.called_set.sub
  refine wpAny_call (codeAny_of_tree ?_)
  show wpAny _ _ (callAny (.type "set") _) _ _ _
  refine wpAny_pure ⟨Code.quiet_builtin _ (by decide +kernel), codeAny_builtin PySem.F.entry_type_call ?_⟩
  rw [Around.under_plain (weight_type_call_type "set" [.ref l] []) rfl]
  have m2 := PySem.F.called_set.notType
  have m3 := PySem.F.called_set.canCreate
  have m4 := PySem.F.typeCall_set_1 (.ref l)
  repeat (any_goals (first | assumption | wp_step))
  refine codeAny_mono (code_set_led1 (.ref l) (E := E) (Q₁ := fun x s1 => x = .ref s.heap.objs.size ∧ s1 = { s with heap := s.heap.push (eS w) }) ⟨rfl, rfl⟩) fun r s1 hr => ?_
  cases r with
  | error e => exact hr
  | ok fl =>
    cases fl with
    | ret x =>
      obtain ⟨rfl, rfl⟩ := hr
      have gS : (s.heap.push (eS w)).get? s.heap.objs.size = some (eS w) := Heap.get?_push_size _ rfl
      have tS : Shared.TypeIs { s with heap := s.heap.push (eS w) } (.ref s.heap.objs.size) "set" := ⟨_, gS, rfl⟩
      have i1 := PySem.F.called_set.init.lookup
      have i2 := PySem.F.called_set.init.bind (.ref s.heap.objs.size)
      repeat (any_goals (first | assumption | wp_step))
      refine codeAny_mono (codeAny_call_builtin (R := wants (fun r s2 => r = .none ∧ ∃ g k c, s2 = { s with heap := g, toks := k } ∧ SetR w g s.heap.objs.size (fun j => decide (j ∈ ns)) c ∧ c ≤ ns.length ∧ (∀ b o, s.heap.get? b = some o → g.get? b = some o)) E)
        PySem.F.called_set.init.plain PySem.F.entry_set_init (check_set_init_1 tS ?_)) fun r2 s2 hr2 => ?_
      · obtain ⟨oL, gL, cL, nL, dL⟩ := hL
        obtain ⟨oc, od, oD, oS⟩ := oL
        simp only at cL dL
        subst cL; subst dL
        have gL' : (s.heap.push (eS w)).get? l = some { cls := .type "list", dict := od, data := .seq xs nL, slots := oS } := Heap.get?_push_of_some _ gL
        have b1 := PySem.F.sub_list_set
        have b2 := PySem.F.sub_list_frozenset
        have b3 : (Value.type "list" == Value.type "dict") = false := by decide
        have lL : (s.heap.push (eS w)).IsList l xs := ⟨_, gL', rfl, nL, rfl⟩
        unfold Builtin.«set.__init__» noKeywords Builtin.Frozenset.updateFrom
        generalize hPI : pyIter = PI
        wp_walk
        subst hPI
        refine wpAny_pyIter_list lL ?_
        refine wpAny_bind (wpAny_runValue ?_)
        have ltL : l < s.heap.objs.size := Heap.lt_size gL
        have h3 : A.in1.in1.in1.handled = none := by simp [hn]
        have nI : l ≠ (s.heap.push (eS w)).objs.size := by rw [Heap.size_push]; exact Nat.ne_of_lt (Nat.lt_succ_of_lt ltL)
        have nS : s.heap.objs.size ∉ [(s.heap.push (eS w)).objs.size, l] := by
          rw [Heap.size_push]
          simp only [List.mem_cons, List.mem_singleton, List.not_mem_nil, or_false, not_or]
          exact ⟨Nat.ne_of_lt (Nat.lt_succ_self _), Nat.ne_of_gt ltL⟩
        have hv : ∀ (i : Nat) (v : Value), xs[i]? = some v → ∃ k t, ns[i]? = some k ∧ v = .int k t := fun i v hv => by
          have hi : i < ns.length := by rw [← hz]; exact (Array.getElem?_eq_some_iff.mp hv).1
          obtain ⟨t, e⟩ := IntsAre.int_at hI i v (by rw [Array.getElem?_toList]; exact hv)
          exact ⟨ns[i], t, List.getElem?_eq_getElem hi, by rw [e, List.getD_eq_getElem?_getD, List.getElem?_eq_getElem hi] <;> rfl⟩
        refine set_update_ints ((Walks.list h3 _ l nI xs).toS) s.heap.objs.size nS ns hz hb hv (xs.size - 0) 0 _ (by omega) (Nat.zero_le _) ⟨⟨_, Heap.get?_push_size _ rfl, rfl, rfl⟩, (lL.push _)⟩ ?g1 ?g2
        case g1 => exact ⟨0, Nat.le_refl 0, setR_new_at (Heap.get?_push_of_some _ gS)⟩
        case g2 =>
          intro s3 c3 mv hc3 hS3
          obtain ⟨g3, gen3, d3, t3, o3⟩ := s3
          have eg : gen3 = s.gens := mv.gens
          have ed : d3 = s.drawn := mv.drawn
          have eo : o3 = s.os := mv.os
          subst eg; subst ed; subst eo
          show wpAny _ _ _ _ _ _
          refine wpAny_pure ?_
          show wpAny _ _ (ret Value.none) _ _ _
          rw [hz] at hc3
          refine wpAny_pure ⟨rfl, g3, t3, c3, rfl, hS3, hc3, fun b o e => ?_⟩
          have lt0 : b < s.heap.objs.size := Heap.lt_size e
          have ne1 : b ≠ s.heap.objs.size := Nat.ne_of_lt lt0
          have ne2 : b ≠ (s.heap.push (eS w)).objs.size := by rw [Heap.size_push]; exact Nat.ne_of_lt (Nat.lt_succ_of_lt lt0)
          exact mv.heap b o (by simp only [List.mem_cons, List.mem_singleton, List.not_mem_nil, or_false, not_or]; exact ⟨ne1, ne2⟩) (Heap.get?_push_of_some _ (Heap.get?_push_of_some _ e))
      · cases r2 with
        | error e => exact hr2
        | ok fl2 =>
          cases fl2 with
          | ret r =>
            obtain ⟨rfl, g, k, c, rfl, hS', hc', hk'⟩ := hr2
            repeat (any_goals (first | assumption | wp_step))
            exact hQ _ _ _ hS' hc' hk'
          | _ => exact hr2.elim
    | _ => exact hr.elim
/-- set(xs) of ints: led -/
def rSetLI (K : PySem.W.Frag) (w : World) : List V → Hp → VK → Prop := fun xs H Q => ∃ (p : Addr) (ns : List Int), xs = [.ref p] ∧ (SqL K H p (ns.map V.int) ∨ SqT K H p (ns.map V.int)) ∧ ns.length + 1 < scanBound ∧
  ∀ q c, c ≤ ns.length → H q = none → Q (.ref q) (upd H q (SetO w q (fun j => decide (j ∈ ns)) c))
variable {X : Cx}
theorem cr_setLI (hc : X.calm = true) : CallR X (.type "set") (rSetLI X.K X.w) := by
  intro pins s σ H xs us Q I r h
  obtain ⟨p, ns, rfl, hp, hb, q⟩ := h
  obtain ⟨u, rfl, r1⟩ := vals1 r
  cases r1
  rcases hp with hp | hp
  · obtain ⟨its, r, pl, hz⟩ := I.list hp
    refine set_lstI ns (I.ok.hd hc) pl.isList (ints_of_vals r) hb fun g k c R hcn hk => ?_
    exact ⟨.ref _, upd H s.heap.objs.size (SetO X.w s.heap.objs.size (fun j => decide (j ∈ ns)) c), I.laid hk (Nat.le_refl _) (setO_new R), rfl, q _ c hcn (I.hok.fresh (Nat.le_refl _))⟩
  · obtain ⟨its, r, pt, hz⟩ := I.tuple hp
    refine call_set_tupI ns (I.ok.hd hc) (show s.heap.IsTuple p its.toArray from pt) (ints_of_vals r) hb fun g k c R hcn hk => ?_
    exact ⟨.ref _, upd H s.heap.objs.size (SetO X.w s.heap.objs.size (fun j => decide (j ∈ ns)) c), I.laid hk (Nat.le_refl _) (setO_new R), rfl, q _ c hcn (I.hok.fresh (Nat.le_refl _))⟩
end
end L2
namespace HT
open PySem PySem.Spec PyProof.Rows L2
section
variable {prog : Program} {w : World} {A : Around} {E : Value → Shared → Prop} {s : Shared}
theorem adj_rev (n : Nat) : Builtin.Slice.sliceAdjust none none (-1) (n : Int) = ((n : Int) - 1, -1) := by
  unfold Builtin.Slice.sliceAdjust
  simp
theorem plc_rev (n : Nat) : Builtin.Slice.slicePlaces ((n : Int) - 1) (-1) (-1) = n := by
  unfold Builtin.Slice.slicePlaces
  simp
  try omega
theorem sl_rev {sl : Addr} {vs : Value} {n : Nat} {Q : Int × Int × Nat → Shared → Prop} (hs : s.heap.IsSliceOf sl .none .none vs) (ps : IsPart vs (some (-1)))
    (h : Q ((n : Int) - 1, -1, n) s) : wpAny (model prog w) A (Builtin.Slice.sliceApplied (.ref sl) (pure (n : Int))) Q E s := by
  obtain ⟨os, ho, hc, hd⟩ := id hs
  unfold Builtin.Slice.sliceApplied Builtin.Slice.sliceFields
  refine wpAny_bind (wpAny_bind (wpAny_field ho hd (x := .none) rfl (wpAny_bind (wpAny_field ho hd (x := .none) rfl (wpAny_bind (wpAny_field ho hd (x := vs) rfl (wpAny_pure ?_)))))))
  refine wpAny_bind (slicePart_ ps ?_)
  show wpAny _ _ (if ((-1 : Int) == 0) = true then _ else _) _ _ s
  rw [if_neg (by decide)]
  refine wpAny_bind (slicePart_ .none (wpAny_bind (slicePart_ .none (wpAny_bind (wpAny_pure ?_)))))
  show wpAny _ _ (match Builtin.Slice.sliceAdjust none none (-1) (n : Int) with | (lo, hi) => pure (lo, (-1 : Int), Builtin.Slice.slicePlaces lo hi (-1))) _ _ s
  rw [adj_rev n]
  show wpAny _ _ (pure ((n : Int) - 1, (-1 : Int), Builtin.Slice.slicePlaces ((n : Int) - 1) (-1) (-1))) _ _ s
  rw [plc_rev]
  exact wpAny_pure h
theorem fm_congr {α β : Type} {f g : α → Option β} : ∀ {l : List α}, (∀ x ∈ l, f x = g x) → l.filterMap f = l.filterMap g
  | [], _ => rfl
  | x :: l, h => by rw [List.filterMap_cons, List.filterMap_cons, h x List.mem_cons_self, fm_congr fun y hy => h y (List.mem_cons_of_mem _ hy)]
theorem pick_rev (xs : Array Value) : ((List.range xs.size).filterMap fun (m : Nat) => xs[(((xs.size : Int) - 1) + (m : Int) * (-1)).toNat]?).toArray = xs.toList.reverse.toArray := by
  have e : ((List.range xs.size).filterMap fun (m : Nat) => xs[(((xs.size : Int) - 1) + (m : Int) * (-1)).toNat]?) = ((List.range xs.size).map fun k => xs.size - 1 - k).filterMap (xs[·]?) := by
    rw [List.filterMap_map]
    refine fm_congr fun m hm => ?_
    have := List.mem_range.mp hm
    have q : (((xs.size : Int) - 1) + (m : Int) * (-1)).toNat = xs.size - 1 - m := by omega
    simp only [q, Function.comp]
  rw [e, PySem.W.krv_range, List.filterMap_reverse, PySem.W.krv_all]
theorem getItem_tuple_rev {t sl : Addr} {xs : Array Value} {vs : Value} {Q : Value → Shared → Prop} (ht : IsTup s.heap t xs) (hs : s.heap.IsSliceOf sl .none .none vs) (ps : IsPart vs (some (-1)))
    (h : Q (.ref s.heap.objs.size) { s with heap := s.heap.push { cls := .type "tuple", data := .seq xs.toList.reverse.toArray } })
    (hz : xs.size ≤ sizeLine) : wpAny (model prog w) A (getItem (.ref t) (.ref sl)) Q E s := by
  have hk : sizeOk (.seq xs.toList.reverse.toArray) := by
    show xs.toList.reverse.toArray.size ≤ sizeLine
    rw [List.size_toArray, List.length_reverse, Array.length_toList]
    exact hz
  obtain ⟨os, ho, hc, hd⟩ := id hs
  have tS : s.TypeIs (.ref sl) "slice" := ⟨os, ho, hc⟩
  unfold getItem
  try with_reducible refine wpAny_holding ?_
  first | refine wpAny_bind (wpAny_pure ?_) | skip
  refine wpAny_bind (wpAny_sequenceKey ht.typeIs (by decide) ?_)
  refine wpAny_bind (wpAny_callSpecial?_slot (name := Str.ofString "__getitem__") ht.typeIs PyProof.Rows.slot_tuple_getitem (wpAny_call_entry PyProof.Rows.slot_tuple_getitem ht.typeIs entry_tuple_getitem ?_ (args_tuple_getitem _ _)))
  show wpAny _ _ (Builtin.Tuple.tupleItemsOf (.ref t) >>= _) _ _ s
  refine wpAny_bind (tupleItemsOf_ ht (wpAny_bind (wpAny_typeOf tS ?_)))
  rw [if_pos (by decide)]
  refine wpAny_bind (sl_rev hs ps ?_)
  have no : ¬ ((((xs.size : Int) - 1) == 0 && (-1 : Int) == 1 && xs.size == xs.size) = true) := by
    intro q
    rw [Bool.and_eq_true, Bool.and_eq_true] at q
    exact absurd q.1.2 (by decide)
  show wpAny _ _ (if ((((xs.size : Int) - 1) == 0 && (-1 : Int) == 1 && xs.size == xs.size) = true) then _ else _) _ _ s
  rw [if_neg no, pick_rev]
  first
    | exact wpAny_bind (m := Builtin.Tuple.tupleExact _) (wpAny_newObj_type (wpAny_pure ⟨_, rfl, wpAny_pure h⟩) hk)
    | exact wpAny_bind (m := Builtin.Tuple.tupleExact _) (wpAny_newObj_type (wpAny_bind (wpAny_pure (wpAny_pure ⟨_, rfl, wpAny_pure h⟩))) hk)
    | exact wpAny_bind (wpAny_bind (m := Builtin.Tuple.tupleExact _) (wpAny_newObj_type (wpAny_pure (wpAny_pure ⟨_, rfl, wpAny_pure h⟩)) hk))
    | exact wpAny_bind (wpAny_bind (m := Builtin.Tuple.tupleExact _) (wpAny_newObj_type (wpAny_pure ⟨_, rfl, wpAny_pure h⟩) hk))
end
end HT
namespace F
open PySem PySem.Spec PyProof.Rows L2
section
variable {X : Cx} {E : XK} {a : Expr} {ma : Ev → M D}
def revM : D → M D
  | .tup xs => .ret (.tup xs.reverse)
  | .lst xs => .ret (.lst xs.reverse)
  | _ => .bad
theorem wpAny_evalPartN {env : PySem.Env} {A : Around} {P : Program} {w : World} {E : Value → Shared → Prop} {Q : Value → Shared → Prop} {s : Shared} (h : Q .none s) : wpAny (model P w) A (evalPart none env) Q E s := by
  rw [evalPart_none]; exact wpAny_pure h
/-- a[::-1] -/
theorem re_rev {k : Nat} {p1 p2 p3 pos : Pos} (ha : RE X E a ma) : RE X E (.Subscript a (.Slice none none (some (.UnaryOp .USub (.Constant (.int 1) k p1) p2)) p3) pos) (eUn revM ma) := by
  refine ⟨fun pins s σ H Q I h => ?_⟩
  refine Subscript_ (thn (ha.run pins s σ H _ I (one (r := rD1 X.K X.mg E revM) (fun _ _ _ z => z) (fun _ _ _ z => z) h)) fun v s1 ⟨x, H1, I1, r1, g, S, d, ok, rx, q1⟩ => ?_)
  have hst : PO X (some (.UnaryOp .USub (.Constant (.int 1) k p1) p2)) (tPart (tUn (rU fun i => .int (-i)) (tC (.int 1)))) := po_some (pe_un un_neg pe_int)
  refine wpAny_Slice (wpAny_evalPartN (wpAny_evalPartN ?_))
  refine thn (hst.run pins s1 σ H1 (fun o H4 => o = some (-1) ∧ H4 = H1) I1 ⟨1, rfl, -1, rfl, rfl, rfl⟩) fun vs s4 ⟨o, H4, I4, ps, eo, e4⟩ => ?_
  subst eo e4
  have I5 : Inv X pins σ H4 { s4 with heap := s4.heap.push { cls := .type "slice", data := .fields #[.none, .none, vs] } } := I4.kept (t' := s4.toks) fun b ob q => Heap.get?_push_of_some _ q
  show wpAny (model X.prog X.w) X.A (subscriptTail a (.Slice none none (some (.UnaryOp .USub (.Constant (.int 1) k p1) p2)) p3) v (.ref s4.heap.objs.size)) (EP X pins σ Q) X.xe { s4 with heap := s4.heap.push { cls := .type "slice", data := .fields #[.none, .none, vs] } }
  cases d with
  | tup xs =>
    obtain ⟨p, ws, rfl, sq, rl⟩ := rep_ref rx
    cases r1
    obtain ⟨its, r, ht, hz⟩ := I5.tuple (SqT.sub ok.sub sq)
    have hn : H4 (s4.heap.objs.size + 1) = none := I4.hok.fresh (Nat.le_succ _)
    have hsz : (s4.heap.push { cls := .type "slice", data := .fields #[.none, .none, vs] }).objs.size = s4.heap.objs.size + 1 := Heap.size_push ..
    obtain ⟨ok2, gr2⟩ := ok.laid (o := .tup ws.reverse) hn
    refine tail_any (ops := [.ref p, .ref s4.heap.objs.size]) ht.typeIs (PyProof.Rows.slot_tuple_getitem.lookup) ?_ (by with_unfolding_all rfl)
    refine HT.getItem_tuple_rev ht (Heap.IsSliceOf.new _ .none .none vs) ps ?_ (by rw [List.size_toArray, ← r.length]; exact hz)
    have J := I5.laid (a := s4.heap.objs.size + 1) (t' := s4.toks) (o := .tup ws.reverse) (h' := (s4.heap.push { cls := .type "slice", data := .fields #[.none, .none, vs] }).push { cls := .type "tuple", data := .seq its.toArray.toList.reverse.toArray }) (fun b ob q => Heap.get?_push_of_some _ q) (Nat.le_of_eq hsz)
      ⟨by rw [List.length_reverse]; exact hz, _, r.reverse, by rw [← hsz]; exact IsTup.new _ _⟩
    exact ⟨.ref (s4.heap.objs.size + 1), _, J, by rw [hsz]; rfl, q1 _ _ _ gr2 ok2 (.tup (SqT.of upd_same) (gr2.repL rl.reverse))⟩
  | lst xs =>
    obtain ⟨p, ws, rfl, sq, rl⟩ := rep_refL rx
    cases r1
    obtain ⟨its, r, ht, hz⟩ := I5.list (SqL.of (K := X.K) (ok.sub _ _ sq))
    have hlen := r.length
    have hn : H4 (s4.heap.objs.size + 1) = none := I4.hok.fresh (Nat.le_succ _)
    have hsz : (s4.heap.push { cls := .type "slice", data := .fields #[.none, .none, vs] }).objs.size = s4.heap.objs.size + 1 := Heap.size_push ..
    obtain ⟨ok2, gr2, hF, hθ⟩ := ok.made (o := .lst ws.reverse) hn
    refine tail_any (ops := [.ref p, .ref s4.heap.objs.size]) ht.isList.typeIs (PySem.slot_list_getitem.lookup) ?_ (by with_unfolding_all rfl)
    refine wpAny_getItem_list_slice ht.isList (Heap.IsSliceOf.new _ .none .none vs) .none .none ps (by decide) ?_ (by rw [List.size_toArray]; omega)
    rw [PySem.W.krv_pick]
    have J := I5.laid (a := s4.heap.objs.size + 1) (t' := s4.toks) (o := .lst ws.reverse) (h' := (s4.heap.push { cls := .type "slice", data := .fields #[.none, .none, vs] }).push (seqObj "list" its.toArray.toList.reverse.toArray 0)) (fun b ob q => Heap.get?_push_of_some _ q) (Nat.le_of_eq hsz)
      ⟨by rw [List.length_reverse]; exact hz, _, 0, r.reverse, by rw [← hsz]; exact Heap.get?_push_size _ rfl⟩
    refine ⟨.ref (s4.heap.objs.size + 1), _, J, by rw [hsz]; rfl, ?_⟩
    have np : NP X.K g H4 Q xs.reverse S := NP.toV q1
    exact np g _ _ ws.reverse gr2 ok2 hn upd_same hF hθ rl.reverse
  | _ => exact q1.elim
end
end F
namespace F
open PySem PySem.Spec PyProof.Rows L2
section
variable {X : Cx} {E : XK} {g0 : Gw} {H0 : Hp}
/-! ### comprehensions -/
theorem rn_comp {elt tg iter : Expr} {ifs : List Expr} {scope : Scope} {pos : Pos} {it : Ev → M (List D)} {gm : GM} {tm : Ev → M Bool} {em : Ev → M D} {ts : List Nat} (own : List (Str × Nat)) (hc : X.calm = true) (hN : X.N.Nodup)
    (hi : RI X E tg iter it) (ok : BlkOk X.N X.env.scope scope own) (hts : ∀ j ∈ ts, j ∈ own.map (·.2))
    (hg : ∀ (s : Shared) (H : Hp) (C : Addr) (cl : List (Str × Addr)) (fp : List Addr), RG (X.blk s H scope (compEnvC scope cl C X.env) fp) tg ts gm)
    (ht : ∀ (s : Shared) (H : Hp) (C : Addr) (cl : List (Str × Addr)) (fp : List Addr), RTs (X.blk s H scope (compEnvC scope cl C X.env) fp) E0 ifs tm)
    (he : ∀ (s : Shared) (H : Hp) (C : Addr) (cl : List (Str × Addr)) (fp : List Addr), RE (X.blk s H scope (compEnvC scope cl C X.env) fp) E0 elt em) (hs : ∀ x, foldedSetIterable iter X.env x = pure x := by intro _; rfl) :
    RN X E (.ListComp elt [⟨tg, iter, ifs, 0⟩] scope pos) (nComp (own.map (·.2)) it gm tm em) :=
  pe_weak (pe_lc hc hN hi ok hg ht he hs) fun σ H Q h => comp_go hts (fun _ _ _ z => z) (fun _ _ _ _ z => z) (fun _ _ _ z => z) (fun _ _ _ z => z) h
/-- name = [..] on one line -/
theorem rs_ownC (i : Nat) {y : Str} {py : Pos} {elt tg iter : Expr} {ifs : List Expr} {scope : Scope} {pos spos : Pos} {it : Ev → M (List D)} {gm : GM} {tm : Ev → M Bool} {em : Ev → M D} {ts : List Nat} (own : List (Str × Nat)) (hc : X.calm = true) (hN : X.N.Nodup)
    (hi : RI X E tg iter it) (ok : BlkOk X.N X.env.scope scope own) (hts : ∀ j ∈ ts, j ∈ own.map (·.2))
    (hg : ∀ (s : Shared) (H : Hp) (C : Addr) (cl : List (Str × Addr)) (fp : List Addr), RG (X.blk s H scope (compEnvC scope cl C X.env) fp) tg ts gm)
    (ht : ∀ (s : Shared) (H : Hp) (C : Addr) (cl : List (Str × Addr)) (fp : List Addr), RTs (X.blk s H scope (compEnvC scope cl C X.env) fp) E0 ifs tm)
    (he : ∀ (s : Shared) (H : Hp) (C : Addr) (cl : List (Str × Addr)) (fp : List Addr), RE (X.blk s H scope (compEnvC scope cl C X.env) fp) E0 elt em)
    (hy : X.N[i]? = some y := by rfl) (hyl : X.env.scope.names.lookup y = some .local := by rfl) (hsw : swapsWith (.ListComp elt [⟨tg, iter, ifs, 0⟩] scope pos) (some (.Name y py)) spos.line X.env = pure true := by first | rfl | exact sw_true rfl rfl rfl rfl)
    (hs : ∀ x, foldedSetIterable iter X.env x = pure x := by intro _; rfl) :
    RS X g0 H0 E (.Assign [.Name y py] (.ListComp elt [⟨tg, iter, ifs, 0⟩] scope pos) spos) (sOwn i (nComp (own.map (·.2)) it gm tm em)) := by
  refine ps_weak (ps_setLc (g := tG X.K ts gm) (tt := tT X.K X.mg E0 tm) (te := tE X.K X.mg E0 em) hc hN hy hyl hsw hi ok hg ht he hs) fun W σ H h => ?_
  exact to_n (k := fun ds ρ => .ret (.nx (ρ.set i (.own ds)))) (fun σ H Q z => comp_go hts (fun _ _ _ z => z) (fun _ _ _ _ z => z) (fun _ _ _ z => z) (fun _ _ _ z => z) z) (fun g S ρ ds a vs H1 g' H' gr en gr1 ok n1 n2 n3 n4 r (z : CP X.K g0 H0 g' W (.nx (ρ.set i (.own ds))) S) => z g' H' _ (gr.trans gr1) .refl ok (en.seto gr1 i n1 n2 n3 n4 r (gr.dom _ n1))) h
/-- the same as a value -/
def sSetL (i : Nat) (m : Ev → M (List D)) : SM := fun ρ => m ρ >>= fun ds => .ret (.nx (ρ.set i (.v (.lst ds))))
theorem Grow.lay {g g' : Gw} {H H' : Hp} {a : Addr} {vs : List V} (gr : Grow g H g' H') (hn : H a = none) (hF : g'.F a = none) : Grow g H ⟨upd g'.F a (.lst vs), g'.θ⟩ H' := by
  refine ⟨gr.dom, gr.keep, gr.th, fun b o e => upd_fm hF b o (gr.fm b o e), fun b o e => ?_⟩
  by_cases hb : b = a
  · subst hb; exact .inr hn
  · have e : upd g'.F a (.lst vs) b = some o := e
    rw [upd_ne hb] at e; exact gr.fn b o e
theorem rs_setC (i : Nat) {y : Str} {py : Pos} {elt tg iter : Expr} {ifs : List Expr} {scope : Scope} {pos spos : Pos} {it : Ev → M (List D)} {gm : GM} {tm : Ev → M Bool} {em : Ev → M D} {ts : List Nat} (own : List (Str × Nat)) (hc : X.calm = true) (hN : X.N.Nodup)
    (hi : RI X E tg iter it) (ok : BlkOk X.N X.env.scope scope own) (hts : ∀ j ∈ ts, j ∈ own.map (·.2))
    (hg : ∀ (s : Shared) (H : Hp) (C : Addr) (cl : List (Str × Addr)) (fp : List Addr), RG (X.blk s H scope (compEnvC scope cl C X.env) fp) tg ts gm)
    (ht : ∀ (s : Shared) (H : Hp) (C : Addr) (cl : List (Str × Addr)) (fp : List Addr), RTs (X.blk s H scope (compEnvC scope cl C X.env) fp) E0 ifs tm)
    (he : ∀ (s : Shared) (H : Hp) (C : Addr) (cl : List (Str × Addr)) (fp : List Addr), RE (X.blk s H scope (compEnvC scope cl C X.env) fp) E0 elt em)
    (hy : X.N[i]? = some y := by rfl) (hyl : X.env.scope.names.lookup y = some .local := by rfl) (hsw : swapsWith (.ListComp elt [⟨tg, iter, ifs, 0⟩] scope pos) (some (.Name y py)) spos.line X.env = pure true := by first | rfl | exact sw_true rfl rfl rfl rfl)
    (hs : ∀ x, foldedSetIterable iter X.env x = pure x := by intro _; rfl) :
    RS X g0 H0 E (.Assign [.Name y py] (.ListComp elt [⟨tg, iter, ifs, 0⟩] scope pos) spos) (sSetL i (nComp (own.map (·.2)) it gm tm em)) := by
  refine ps_weak (ps_setLc (g := tG X.K ts gm) (tt := tT X.K X.mg E0 tm) (te := tE X.K X.mg E0 em) hc hN hy hyl hsw hi ok hg ht he hs) fun W σ H h => ?_
  refine to_n (k := fun ds ρ => .ret (.nx (ρ.set i (.v (.lst ds))))) (fun σ H Q z => comp_go hts (fun _ _ _ z => z) (fun _ _ _ _ z => z) (fun _ _ _ z => z) (fun _ _ _ z => z) z) (fun g S ρ ds a vs H1 g' H' gr en gr1 ok n1 n2 n3 n4 r z => ?_) h
  have gl := gr1.lay (vs := vs) n1 n3
  have z : CP X.K g0 H0 g' W (.nx (ρ.set i (.v (.lst ds)))) S := z
  exact z ⟨upd g'.F a (.lst vs), g'.θ⟩ H' _ (gr.trans gl) ⟨fun b o e => upd_fm n3 b o e, fun _ _ e => e⟩ (ok.froze n2 n3 n4) ((en.grow gl).setv i (.lst upd_same (r.mono (upd_fm n3) fun _ _ q => q)))
/-! ### two at once, own lists -/
/-- x, y = a new list, a value -/
def sParNV (i j : Nat) (m : Ev → M (List D)) (mb : Ev → M D) : SM := fun ρ => m ρ >>= fun ds => mb ρ >>= fun e => .ret (.nx ((ρ.set i (.own ds)).set j (.v e)))
def sParNN (i j : Nat) (m n : Ev → M (List D)) : SM := fun ρ => m ρ >>= fun ds => n ρ >>= fun es => .ret (.nx ((ρ.set i (.own ds)).set j (.own es)))
section
variable {a b : Expr} {x y : Str} {px py pt pos : Pos} {kt k2 : Nat} {pt2 : Pos} {m n : Ev → M (List D)} {mb : Ev → M D}
theorem rs_parNN (i j : Nat) (hc : X.calm = true) (hN : X.N.Nodup) (ha : RN X E a m) (hb : RN X E b n) (hi : X.N[i]? = some x := by rfl) (hj : X.N[j]? = some y := by rfl) (hij : i ≠ j := by decide)
    (hx : X.env.scope.names.lookup x = some .local := by rfl) (hy : X.env.scope.names.lookup y = some .local := by rfl)
    (hst : starEach [a, b] X.env = (false, eval a X.env) :: starEach [b] X.env := by rfl) (hst2 : starEach [b] X.env = (false, eval b X.env) :: starEach [] X.env := by rfl)
    (hw : swappedStores [.Tuple [.Name x px, .Name y py] kt pt] (.Tuple [a, b] k2 pt2) X.env = pure (some [x, y]) := by rfl)
    (hs : swapsWithSole [.Tuple [.Name x px, .Name y py] kt pt] (.Tuple [a, b] k2 pt2) pos.line X.env = pure false := by rfl) :
    RS X g0 H0 E (.Assign [.Tuple [.Name x px, .Name y py] kt pt] (.Tuple [a, b] k2 pt2) pos) (sParNN i j m n) := by
  refine ps_weak (ps_par hc hN hi hj hij hx hy (pa_cons ha (pa_cons hb pa_nil hst2) hst) hw hs) fun W σ H ⟨g, S, ρ, gr, ok, en, h⟩ => ?_
  refine ⟨g, S, ρ, _, ok, en, wp_mono (wp_bind.mp h) (fun ds S1 h1 g1 H1 p vs gr1 ok1 n1 n2 n3 n4 r => ?_) fun _ _ z => z.grow gr⟩
  refine ⟨g1, S1, ρ, _, ok1, en.grow gr1, wp_mono (wp_bind.mp h1) (fun es S2 h2 g2 H2 p2 ws gr2 ok2 m1 m2 m3 m4 r2 => ?_) fun _ _ z => z.grow (gr.trans gr1)⟩
  have o2 := (show OwnAt g1 (fun _ => True) p from ⟨trivial, n3, n4⟩).grow n2 gr2
  have gr12 := gr1.trans gr2
  have en1 := en.seto gr1 i n1 n2 n3 n4 r (gr.dom _ n1)
  exact ⟨.ref p, .ref p2, rfl, h2 g2 H2 _ (gr.trans gr12) gr12.ext ok2 (en1.seto gr2 j m1 m2 m3 m4 r2 (gr.dom _ (gr1.dom _ m1)))⟩
theorem rs_parNV (i j : Nat) (hc : X.calm = true) (hN : X.N.Nodup) (ha : RN X E a m) (hb : RE X E b mb) (hi : X.N[i]? = some x := by rfl) (hj : X.N[j]? = some y := by rfl) (hij : i ≠ j := by decide)
    (hx : X.env.scope.names.lookup x = some .local := by rfl) (hy : X.env.scope.names.lookup y = some .local := by rfl)
    (hst : starEach [a, b] X.env = (false, eval a X.env) :: starEach [b] X.env := by rfl) (hst2 : starEach [b] X.env = (false, eval b X.env) :: starEach [] X.env := by rfl)
    (hw : swappedStores [.Tuple [.Name x px, .Name y py] kt pt] (.Tuple [a, b] k2 pt2) X.env = pure (some [x, y]) := by rfl)
    (hs : swapsWithSole [.Tuple [.Name x px, .Name y py] kt pt] (.Tuple [a, b] k2 pt2) pos.line X.env = pure false := by rfl) :
    RS X g0 H0 E (.Assign [.Tuple [.Name x px, .Name y py] kt pt] (.Tuple [a, b] k2 pt2) pos) (sParNV i j m mb) := by
  refine ps_weak (ps_par hc hN hi hj hij hx hy (pa_cons ha (pa_cons hb pa_nil hst2) hst) hw hs) fun W σ H ⟨g, S, ρ, gr, ok, en, h⟩ => ?_
  refine ⟨g, S, ρ, _, ok, en, wp_mono (wp_bind.mp h) (fun ds S1 h1 g1 H1 p vs gr1 ok1 n1 n2 n3 n4 r => ?_) fun _ _ z => z.grow gr⟩
  refine ⟨g1, S1, ρ, _, ok1, en.grow gr1, wp_mono (wp_bind.mp h1) (fun e S2 h2 g2 H2 v gr2 ok2 rv => ?_) fun _ _ z => z.grow (gr.trans gr1)⟩
  have o2 := (show OwnAt g1 (fun _ => True) p from ⟨trivial, n3, n4⟩).grow n2 gr2
  have gr12 := gr1.trans gr2
  exact ⟨.ref p, v, rfl, h2 g2 H2 _ (gr.trans gr12) gr12.ext ok2 ((en.seto gr12 i n1 (gr2.keep _ _ n2 n4) o2.2.1 o2.2.2 (gr2.repL r) (gr.dom _ n1)).setv j rv)⟩
end
/-! ### repr -/
def shownM (d : D) : M D := if d.sh = true then match d.py with
    | some p => if p.showable = true ∧ p.shown.length ≤ sizeLine then .ret (.str p.shown) else .bad
    | none => .bad
  else .bad
def reprM : D → M D
  | .tup xs => shownM (.tup xs)
  | .lst xs => shownM (.lst xs)
  | .int i => if i.natAbs.log2 < 1920 then .ret (.str (toString i)) else .bad
  | _ => .bad
theorem b_repr (gd : X.A.guards = some []) (hu : X.A.units + 65 < cLine) : CallR X (.builtin "repr") (rDL X.K X.mg E (L1 reprM)) := by
  intro pins s σ H xs us Q I r ⟨g, S, ds, ok, rp, h⟩
  match ds, h with
  | [d], h =>
    obtain ⟨v, rfl, rv⟩ := repL_one rp
    have go : ∀ d : D, (∃ a, v = .ref a) → Rep X.K g.F g.θ v d → wp (shownM d) S (VP X.K g H Q) (XP X.K X.mg g H E) → wpAny (model X.prog X.w) X.A (call (.builtin "repr") us) (EP X pins σ Q) X.xe s := by
      rintro d ⟨a, rfl⟩ rv h
      obtain ⟨hs, h⟩ := wp_guard h
      obtain ⟨p, e, c, z⟩ := D.py_pl d (by have := hs; unfold D.sh at this; simp at this; exact this.1)
      rw [e] at h
      obtain ⟨⟨h1, h2⟩, h⟩ := wp_guard h
      obtain ⟨u, rfl, r1⟩ := vals1 r
      obtain ⟨as, rd⟩ := Dp.reads I p (.ref a) u (Rep.dp (fun a o q => ok.sub a o q) rv e) r1
      cases r1
      have hd : p.depth ≤ 64 := by rw [z]; unfold D.sh at hs; simp at hs; exact hs.2
      exact repr_of_reads' rd h1 (PyData.noDict_hsm (PyData.hasDict_of_canLay p c)) gd (by omega) (fun _ _ e => e) (fun h' u tk hk => ⟨.str p.shown, H, I.kept hk, ⟨u, rfl⟩, h g H _ .refl ok (.str _)⟩) h2
    cases d with
    | tup ys => exact go _ (let ⟨a, _, e, _⟩ := rep_ref rv; ⟨a, e⟩) rv h
    | lst ys => exact go _ (let ⟨a, _, e, _⟩ := rep_refL rv; ⟨a, e⟩) rv h
    | int i =>
      cases rv
      obtain ⟨hz, h⟩ := wp_guard h
      exact SkE.call_repr_int pins s σ H _ us Q I r ⟨i, rfl, hz, h g H _ .refl ok (.str _)⟩
    | _ => exact h.elim
  | [], h => exact h.elim
  | _ :: _ :: _, h => exact h.elim
/-! ### sorted(set(..)) of ints, join -/
def sSetN : D → M (List D)
  | .lst xs => match intsOf xs with
    | some ns => if ns.length < 64 then .ret ((srtI ns.eraseDups).map D.int) else .bad
    | none => .bad
  | .tup xs => match intsOf xs with
    | some ns => if ns.length < 64 then .ret ((srtI ns.eraseDups).map D.int) else .bad
    | none => .bad
  | _ => .bad
def nUn (om : D → M (List D)) (ma : Ev → M D) : Ev → M (List D) := fun ρ => ma ρ >>= om
theorem dd_nodup : ∀ (n : Nat) (l : List Int), l.length ≤ n → l.eraseDups.Nodup ∧ ∀ x, x ∈ l.eraseDups ↔ x ∈ l := by
  intro n
  induction n with
  | zero => intro l h; have : l = [] := List.eq_nil_of_length_eq_zero (by omega); subst this; simp
  | succ n ih =>
    intro l h
    cases l with
    | nil => simp
    | cons a l =>
      rw [List.eraseDups_cons]
      have hl : (l.filter fun b => !b == a).length ≤ n := Nat.le_trans (List.length_filter_le _ _) (by simpa using h)
      obtain ⟨h1, h2⟩ := ih _ hl
      refine ⟨List.nodup_cons.mpr ⟨fun z => ?_, h1⟩, fun x => ?_⟩
      · have := (h2 a).mp z
        simp at this
      · rw [List.mem_cons, h2, List.mem_cons, List.mem_filter]
        constructor
        · rintro (e | ⟨e, _⟩)
          · exact .inl e
          · exact .inr e
        · rintro (e | e)
          · exact .inl e
          · by_cases q : x = a
            · exact .inl q
            · exact .inr ⟨e, by simpa using q⟩
theorem srt_sorted (ns : List Int) : (srtI ns).Pairwise (· ≤ ·) := by
  have := List.pairwise_mergeSort (le := fun a b : Int => decide (a ≤ b)) (fun a b c h1 h2 => by simp at *; omega) (fun a b => by simp; omega) ns
  exact this.imp fun h => by simpa using h
theorem srt_perm (ns : List Int) : (srtI ns).Perm ns := List.mergeSort_perm ns _
theorem srt_uniq {ns ms : List Int} (h1 : ns.Pairwise (· < ·)) (h2 : ms.Pairwise (· ≤ ·)) (hd : ms.Nodup) (h : ∀ x, x ∈ ns ↔ x ∈ ms) : ns = ms := by
  have n1 : ns.Nodup := h1.imp fun h => by omega
  have p : ns.Perm ms := (List.perm_ext_iff_of_nodup n1 hd).mpr h
  exact p.eq_of_pairwise (le := (· ≤ ·)) (fun a b _ _ h1 h2 => by omega) (h1.imp fun h => by omega) h2
theorem rn_sortedSet {p1 p2 pos pos2 : Pos} {ma : Ev → M D} {a : Expr} (hc : X.calm = true) (ha : RE X E a ma) (hg : Gl X "sorted") (hm : X.mg "sorted" = none) (hg2 : Gl X "set") (hm2 : X.mg "set" = none)
    (he : starEach [.Call (.Name "set" p2) [a] [] pos2] X.env = (false, eval (.Call (.Name "set" p2) [a] [] pos2) X.env) :: starEach [] X.env := by rfl) (he2 : starEach [a] X.env = (false, eval a X.env) :: starEach [] X.env := by rfl) :
    RN X E (.Call (.Name "sorted" p1) [.Call (.Name "set" p2) [a] [] pos2] [] pos) (nUn sSetN ma) := by
  have inner := pe_callTy (cr_setLI hc) hg2 hm2 PyProof.Rows.boot_set (pa_cons ha pa_nil he2) (he := he2) (pos := pos2) (p := p2)
  refine pe_weak (pe_callB (cr_sortedSet hc) hg hm PyProof.Rows.boot_sorted (pa_cons inner pa_nil he) (he := he)) fun σ H Q ⟨g, S, ρ, L, ok, en, h⟩ => ?_
  refine ⟨g, S, ρ, L, ok, en, wp_mono (wp_bind.mp h) (fun d S1 h1 g1 H1 v gr1 ok1 rv => ?_) fun _ _ z => z⟩
  have go : ∀ (q : Addr) (vs : List V) (xs : List D), v = .ref q → RepL X.K g1.F g1.θ vs xs → (SqL X.K H1 q vs ∨ SqT X.K H1 q vs) → wp (match intsOf xs with | some ns => if ns.length < 64 then M.ret ((srtI ns.eraseDups).map D.int) else .bad | none => .bad) S1 (NP X.K g H Q) (XP X.K X.mg g H E) →
      rSetLI X.K X.w [v] H1 fun x H2 => rSortedSet X.w [x] H2 Q := by
    intro q vs xs ev rl sq h1
    subst ev
    cases ei : intsOf xs with
    | none => rw [ei] at h1; exact h1.elim
    | some ns =>
      rw [ei] at h1
      obtain ⟨hz, h1⟩ := wp_guard h1
      have evs : vs = ns.map V.int := repL_ints (by rw [intsOf_map ei] at rl; exact rl)
      subst evs
      refine ⟨q, ns, rfl, sq, by unfold scanBound; omega, fun q2 c hcn hq2 => ⟨q2, _, c, rfl, upd_same, by omega, fun ms p2 hp hmem hl hp2 => ?_⟩⟩
      obtain ⟨dn, dm⟩ := dd_nodup _ ns (Nat.le_refl _)
      have em : ms = srtI ns.eraseDups := srt_uniq hp (srt_sorted _) ((srt_perm _).nodup_iff.mpr dn) fun x => by rw [hmem x, (srt_perm _).mem_iff, dm]; simp
      subst em
      obtain ⟨ok2, gr2, hF2, hθ2⟩ := ok1.made (o := SetO X.w q2 (fun j => decide (j ∈ ns)) c) hq2
      obtain ⟨ok3, gr3, hF3, hθ3⟩ := ok2.made (o := .lst ((srtI ns.eraseDups).map V.int)) hp2
      have grA := gr1.trans (gr2.trans gr3)
      exact h1 g1 _ p2 _ grA ok3 (gr1.dom _ (gr2.dom _ hp2)) upd_same hF3 hθ3 (ints_repL _)
  cases d with
  | lst xs => obtain ⟨q, vs, rfl, sq, rl⟩ := rep_refL rv; exact go q vs xs rfl rl (.inl (SqL.of (ok1.sub _ _ sq))) h1
  | tup xs => obtain ⟨q, vs, rfl, sq, rl⟩ := rep_ref rv; exact go q vs xs rfl rl (.inr (SqT.sub ok1.sub sq)) h1
  | _ => exact h1.elim
def joinM (a : Str) : D → M D
  | .lst xs => match strsOf xs with
    | some ys => if (ys.map (·.length)).sum + ys.length * a.length ≤ 16777216 then .ret (.str (Txt.join a ys)) else .bad
    | none => .bad
  | .tup xs => match strsOf xs with
    | some ys => if (ys.map (·.length)).sum + ys.length * a.length ≤ 16777216 then .ret (.str (Txt.join a ys)) else .bad
    | none => .bad
  | _ => .bad
def eJoin (mo ma : Ev → M D) : Ev → M D := fun ρ => mo ρ >>= fun d => match d with
  | .str a => ma ρ >>= joinM a
  | _ => .bad
theorem re_join {o a : Expr} {mo ma : Ev → M D} {apos pos : Pos} (ho : RE X E o mo) (ha : RE X E a ma) (hs : starEach [a] X.env = [(false, eval a X.env)] := by rfl) (hbase : attributeBase o "join" X.env (eval o X.env) = eval o X.env := by rfl) (hline : (apos.endLine == pos.line) = true := by rfl) :
    RE X E (.Call (.Attribute o "join" apos) [a] [] pos) (eJoin mo ma) := by
  refine pe_weak (pe_join ho ha hs hbase hline) fun σ H Q ⟨g, S, ρ, L, ok, en, h⟩ => ?_
  refine ⟨g, S, ρ, L, ok, en, wp_mono (wp_bind.mp h) (fun d S1 h1 g1 H1 v gr1 ok1 rv => ?_) fun _ _ z => z⟩
  cases d with
  | str t =>
    cases rv
    refine ⟨⟨t, rfl⟩, g1, S1, ρ, L, ok1, en.grow gr1, wp_mono (wp_bind.mp h1) (fun d2 S2 h2 g2 H2 v2 gr2 ok2 rv2 => ?_) fun _ _ z => z.grow gr1⟩
    have gr12 := gr1.trans gr2
    cases d2 with
    | lst xs =>
      obtain ⟨q, vs, rfl, sq, rl⟩ := rep_refL rv2
      unfold joinM at h2
      cases e : strsOf xs with
      | some ys =>
        simp only [e] at h2
        obtain ⟨hz, h2⟩ := wp_guard h2
        have evs : vs = ys.map V.str := repL_strs (by rw [strsOf_map e] at rl; exact rl)
        subst evs
        exact ⟨t, q, ys, rfl, rfl, .inl (SqL.of (ok2.sub _ _ sq)), hz, h2 g2 H2 _ gr12 ok2 (.str _)⟩
      | none => simp only [e] at h2; exact h2.elim
    | tup xs =>
      obtain ⟨q, vs, rfl, sq, rl⟩ := rep_ref rv2
      unfold joinM at h2
      cases e : strsOf xs with
      | some ys =>
        simp only [e] at h2
        obtain ⟨hz, h2⟩ := wp_guard h2
        have evs : vs = ys.map V.str := repL_strs (by rw [strsOf_map e] at rl; exact rl)
        subst evs
        exact ⟨t, q, ys, rfl, rfl, .inr (SqT.sub ok2.sub sq), hz, h2 g2 H2 _ gr12 ok2 (.str _)⟩
      | none => simp only [e] at h2; exact h2.elim
    | _ => exact h2.elim
  | _ => exact h1.elim
end
end F
namespace F
open PySem PySem.Spec PyProof.Rows L2
/-! ## calls with keywords alone: f(x=..) -/
structure Fnk (P : Program) (w : World) (K : PySem.W.Frag) (mg : Str → Option Value) (base : Heap) (k : Nat) (x : Str) (ks : List Str) (fM : List D → M D) : Prop where
  ex : ∃ (f : Addr) (fd : FuncData) (ps : List Str), FnG P w K mg base k f fd ps (spM K mg ks.length fM) ∧ mg x = some (.ref f) ∧ PySem.W.keepIn K (.ref f) = true ∧
    (∀ (s : Shared) (ws : List Value), ws.length = ks.length → BindsTo s fd ⟨[], ks.zip ws⟩ (ps.zip ws))
section
variable {X : Cx} {E : XK} {j k : Nat} {x : Str} {ks : List Str} {fM : List D → M D} {kws : List Keyword} {p pos : Pos} {mas : Ev → M (List D)}
abbrev RK (X : Cx) (E : XK) (e : List Keyword) (m : Ev → M (List D)) : Prop := PK X e (tA X.K X.mg E m)
theorem pk_weak {e : List Keyword} {t t' : TA} (h : PK X e t) (w : ∀ σ H Q, t' σ H Q → t σ H Q) : PK X e t' := ⟨fun pos pins s σ H Q I q => h.run pos pins s σ H Q I (w σ H Q q)⟩
theorem rk_nil : RK X E [] aNil := pk_weak pk_nil fun σ H Q ⟨g, S, ρ, L, ok, en, h⟩ => h g H [] .refl ok .nil
theorem rk_cons {a : Expr} {nm : Option Str} {kp : Pos} {ma : Ev → M D} (ha : RE X E a ma) (hr : RK X E kws mas) : RK X E (⟨nm, a, kp⟩ :: kws) (aCons ma mas) := by
  refine pk_weak (pk_cons ha hr) fun σ H Q ⟨g, S, ρ, L, ok, en, h⟩ => ?_
  refine ⟨g, S, ρ, L, ok, en, wp_mono (wp_bind.mp h) (fun d S1 h1 g1 H1 v gr1 ok1 r => ?_) fun _ _ z => z⟩
  refine ⟨g1, S1, ρ, L, ok1, en.grow gr1, wp_mono (wp_bind.mp h1) (fun ds S2 h2 g2 H2 vs gr2 ok2 rs => ?_) fun _ _ z => z.grow gr1⟩
  exact h2 g2 H2 _ (gr1.trans gr2) ok2 (.cons (gr2.rep r) rs)
theorem re_fk (fn : Fnk X.prog X.w X.K X.mg X.base j x ks fM) (c : Cal X E k) (gd : X.A.guards = some []) (hjk : j ≤ k) (hg : Gl X x) (ha : RK X E kws mas)
    (hks : (backToKw pos (keywordEach kws X.env)).filterMap (·.1) = ks := by rfl) (hall : (backToKw pos (keywordEach kws X.env)).all (·.1.isSome) = true := by rfl) (hdb : (x == ("__debug__" : Str)) = false := by decide)
    (hpl : ((backTo pos (starEach [] X.env)).any (·.1) || (backToKw pos (keywordEach kws X.env)).any (·.1.isNone)) = false := by rfl) :
    RE X E (.Call (.Name x p) [] kws pos) (eF ks.length fM mas) := by
  obtain ⟨f, fd, ps, G, hm, hk, hb⟩ := fn.ex
  refine ⟨fun pins s σ H Q I ⟨g, S, ρ, L, ok, en, h⟩ => ?_⟩
  refine wpAny_Call_Name_kw (ld_glob I hg hm ?_ hdb)
  refine PySem.W.callWith_KW0 (h₀ := X.base) I.ok.mod.kin hk hall ?_ hpl
  refine thn (ha.run pos pins s σ H (fun vs H1 => spM X.K X.mg ks.length fM vs H1 Q E) I ⟨g, S, ρ, L, ok, en, wp_mono (wp_bind.mp h) (fun ds S1 h1 g1 H1 vs gr ok1 r => ?_) fun _ _ z => z⟩) fun ws s2 ⟨zs, H2, I2, rz, q2⟩ => ⟨I2.kIn, ?_⟩
  · obtain ⟨hz, h1⟩ := wp_guard h1
    exact ⟨r.length.trans hz, g1, S1, ds, ok1, r, wp_mono h1 (fun _ _ z => z.grow gr) fun _ _ z => z.grow gr⟩
  · rw [hks]
    refine wpAny_call (codeAny_mono (G.go X.A X.stack s2 H2 ⟨[], ks.zip ws⟩ ws zs Q E (c.room.mono hjk) gd I2.env0 (hb s2 ws (rz.length.symm.trans q2.1)) rz q2) fun r s' hq => ?_)
    match r, hq with
    | .error e, hq => exact c.ps pins σ H2 s2 e s' I2 hq
    | .ok (.ret u), hq => exact I2.after hq
    | .ok .next, hq => exact hq.elim
    | .ok .brk, hq => exact hq.elim
    | .ok .cont, hq => exact hq.elim
end
end F
namespace F
open PySem PySem.Spec PyProof.Rows L2
/-! ## the module's facts -/
structure Gd (fa : List He.Fa) (fn : List He.DefD) (ex : PySem.W.Frag → Bool) (K : PySem.W.Frag) (mg : Str → Option Value) (base : Heap) : Prop where
  says : He.SaysD fa fn K
  ex : ex K = true
  kin : K.In base
  ns : base.Ns mainGlobals mg
section
variable {fa : List He.Fa} {fn : List He.DefD} {ex : PySem.W.Frag → Bool} {P : Program} {w : World} {K : PySem.W.Frag} {mg : Str → Option Value} {base : Heap} {x : Str} {k : Nat}
theorem Gd.glo (g : Gd fa fn ex K mg base) (i : Nat) (h : fa[i]? = some (.glo x) := by rfl) : mg x = some (.ref (He.ga K x)) := He.glo_ok g.kin g.ns (g.says.fact i h)
theorem Gd.free (g : Gd fa fn ex K mg base) (i : Nat) (h : fa[i]? = some (.free x) := by rfl) : mg x = none := He.free_ok g.kin g.ns (g.says.fact i h)
variable {qual : Str} {params : Arguments} {body : List Stmt} {scope : Scope} {f : Addr} {fd : FuncData} {N ps : List Str} {bm : SM}
abbrev cxD (P : Program) (w : World) (K : PySem.W.Frag) (mg : Str → Option Value) (base : Heap) (N : List Str) (qual : Str) (scope : Scope) (f : Addr) (cdv : Value) (A : Around) (outer : List PySem.Env) (s : Shared) (H : Hp) (E : XK) : Cx := cxOf (L2.CX P w) P w K mg base N qual scope f cdv A outer s H E
/-- a def by its body, the context as it is made -/
theorem fnC (F : FunD K x qual params body scope [] [] f fd) (S : FnScope N ps scope)
    (hb : ∀ (cdv : Value) (A : Around) (outer : List PySem.Env) (s : Shared) (g0 : Gw) (H : Hp) (E : XK), Def0 (cxD P w K mg base N qual scope f cdv A outer s H E) E k → (cxD P w K mg base N qual scope f cdv A outer s H E).A.guards = some [] →
      RSs (cxD P w K mg base N qual scope f cdv A outer s H E) g0 H E body bm) : FnG P w K mg base (k + 1) f fd ps (spM K mg ps.length (runB N.length bm)) := by
  obtain ⟨oc, od, dV, kV, doc, pm, an, cdv, ct, osl, rfl, lk, hcd, _, _⟩ := F.ex
  refine ⟨fun vs H Q E h => h.1, fun A outer s H args us vs Q E hr hgd e0 hbd r hsp => ?_⟩
  have keep : ∀ b o, base.get? b = some o → s.heap.get? b = some o := fun b o e => (e0.bs b o e).1
  refine codeAny_call_function hr.depth (e0.mod.kin.keeps keep _ _ lk) rfl S.co S.gen rfl (PySem.W.codeRec_of (e0.mod.kin.keeps keep) hcd) (hbd _ _ _ _ (wpAny_newFunctionEnv_cells S.kind (fun y hy => ?_) fun env he s1 x => ?_))
  · rcases S.par y.1 (List.of_mem_zip hy).1 with q | q
    · exact .inl q
    · exact .inr ⟨q, PySem.W.cellsFrom_some _ _ _ (.inl q)⟩
  subst he
  refine ⟨(e0.mod.nolimit.keeps keep).keeps x.toInCall.keep, codeAny_func ?_⟩
  have I : Inv (cxD P w K mg base N qual scope f cdv A outer s H E) [] (start N vs) H s1 := inv_start S hr.hd e0 hsp.1 r x
  obtain ⟨g, hq⟩ := body_go hsp.2
  have d0 : Def0 (cxD P w K mg base N qual scope f cdv A outer s H E) E k := ⟨rfl, takes_of rfl rfl rfl rfl, hr.deeper _, passes_of rfl⟩
  refine wpAny_mono ((hb cdv A outer s g H E d0 hgd).run [] s1 (start N vs) H _ I hq) (fun fl s' hs => ?_) fun e s' hs => hs
  cases fl with
  | ret u => obtain ⟨v, σ', H', J, rv, q⟩ := hs; exact ⟨v, H', J.os, J.bare, J.base, J.hok, rv, q⟩
  | next => obtain ⟨σ', H', J, q⟩ := hs; exact ⟨V.non, H', J.os, J.bare, J.base, J.hok, rfl, q⟩
  | brk => obtain ⟨_, _, _, q⟩ := hs; exact q.elim
  | cont => obtain ⟨_, _, _, q⟩ := hs; exact q.elim
/-- its call's binding, no defaults -/
def BindF (x qual : Str) (params : Arguments) (body : List Stmt) (scope : Scope) (ps : List Str) : Prop := ∀ (kV doc pm : Value) (an : Option Addr) (cdv ct : Value) (us : List Value), us.length = ps.length →
  bindArgs (PySem.W.fnOf x qual params body scope .none kV doc pm an cdv ct) ⟨us, []⟩ = pure (ps.zip us)
theorem FunD.fd_eq (F : FunD K x qual params body scope [] [] f fd) : ∃ (kV doc pm : Value) (an : Option Addr) (cdv ct : Value), fd = PySem.W.fnOf x qual params body scope .none kV doc pm an cdv ct := by
  obtain ⟨oc, od, dV, kV, doc, pm, an, cdv, ct, osl, rfl, lk, hcd, hD, hK⟩ := F.ex
  rcases hD with ⟨_, rfl⟩ | ⟨e, _⟩
  · exact ⟨kV, doc, pm, an, cdv, ct, rfl⟩
  · exact absurd rfl e
theorem fnc_of {n : Nat} {fM : List D → M D} (F : FunD K x qual params body scope [] [] f fd) (hm : mg x = some (.ref f)) (hn : ps.length = n) (G : FnG P w K mg base k f fd ps (spM K mg n fM)) (hb : BindF x qual params body scope ps) : Fnc P w K mg base k x n fM := by
  obtain ⟨kV, doc, pm, an, cdv, ct, rfl⟩ := FunD.fd_eq F
  exact ⟨f, _, ps, G, hm, F.kp, .all (hb kV doc pm an cdv ct), hn⟩
def BindK (x qual : Str) (params : Arguments) (body : List Stmt) (scope : Scope) (ps ks : List Str) : Prop := ∀ (kV doc pm : Value) (an : Option Addr) (cdv ct : Value) (ws : List Value), ws.length = ks.length →
  bindArgs (PySem.W.fnOf x qual params body scope .none kV doc pm an cdv ct) ⟨[], ks.zip ws⟩ = pure (ps.zip ws)
theorem fnk_of {ks : List Str} {fM : List D → M D} (F : FunD K x qual params body scope [] [] f fd) (hm : mg x = some (.ref f)) (G : FnG P w K mg base k f fd ps (spM K mg ks.length fM)) (hb : BindK x qual params body scope ps ks) : Fnk P w K mg base k x ks fM := by
  obtain ⟨kV, doc, pm, an, cdv, ct, rfl⟩ := FunD.fd_eq F
  exact ⟨f, _, ps, G, hm, F.kp, fun s ws hl => .of_eq (hb kV doc pm an cdv ct ws hl)⟩
/-- a table of the module -/
theorem re_tab {X : Cx} {E : XK} {y : Str} {vs : List V} {ds : List D} {pos : Pos} (hg : Gl X y) (hm : X.mg y = some (.ref (He.ga X.K y))) (ht : ∀ H, SqT X.K H (He.ga X.K y) vs) (r : ∀ F θ, RepL X.K F θ vs ds) (hd : (y == ("__debug__" : Str)) = false := by decide) : RE X E (.Name y pos) (eC (.tup ds)) :=
  re_glob hg hm (v := .ref (He.ga X.K y)) rfl (fun F θ => .tup (ht F) (r F θ)) hd
def scB (N P : List Str) (sc : Scope) : Bool :=
  decide (sc.kind = .function) && (!sc.isCoroutine && (!sc.isGenerator && (decide N.Nodup && (decide (N.take P.length = P) && (P.all (fun x => decide (sc.names.lookup x = some .local) || decide (sc.names.lookup x = some .cell)) && sc.names.all (fun y => !decide (y.2 = .free)))))))
theorem scope_ok {N P : List Str} {sc : Scope} (h : scB N P sc = true) : FnScope N P sc := by
  unfold scB at h
  simp only [Bool.and_eq_true, Bool.not_eq_true', decide_eq_true_eq, List.all_eq_true, Bool.or_eq_true, decide_eq_false_iff_not] at h
  exact ⟨h.1, h.2.1, h.2.2.1, h.2.2.2.1, h.2.2.2.2.1, h.2.2.2.2.2.1, h.2.2.2.2.2.2⟩
theorem Def0.u64 {X : Cx} {E : XK} {k : Nat} (d : Def0 X E k) : X.A.units + 64 < cLine := by have := d.room.un; omega
theorem cal_b {X : Cx} {E : XK} {k : Nat} (c : Cal X E k) (s : Shared) (H : Hp) (scope : Scope) (cenv : PySem.Env) (fp : List Addr) : Cal (X.blk s H scope cenv fp) E0 k :=
  ⟨fun _ _ _ _ _ _ _ ⟨_, _, _, _, _, _, _, _, _, _, _, _, e⟩ => e.elim, c.room⟩
theorem fn_bad {n : Nat} (hn : ps.length = n := by rfl) : FnG P w K mg base k f fd ps (spM K mg n fun _ => .bad) :=
  ⟨fun vs H Q E h => h.1.trans hn.symm, fun A outer s H args us vs Q E hr hgd e0 hbd r hsp => let ⟨g, S, ds, ok, rp, h⟩ := hsp.2; (h : False).elim⟩
theorem rt_cmp {X : Cx} {E : XK} {a b : Expr} {ma mb : Ev → M D} {pos : Pos} {op : CmpOp} {om : D → D → M D} (ho : OpR X (compareOp op) (rD2 X.K X.mg E om)) (ha : RE X E a ma) (hb : RE X E b mb) (hm : behindInMarks op b = false := by first | exact nomark _ | rfl) : RT X E (.Compare a [op] [b] pos) (tV (eBin om ma mb)) := by
  refine pt_weak (pt_cmpR ho ha hb hm) fun σ H Q ⟨g, S, ρ, L, ok, en, h⟩ => ?_
  refine two (r := rD2 X.K X.mg E om) (fun _ _ _ z => z) (fun _ _ _ z => z) (fun _ _ _ _ z => z) ⟨g, S, ρ, L, ok, en, wp_mono (wp_bind.mp h) (fun d S1 h1 g1 H1 v gr ok1 r => ?_) fun _ _ z => z⟩
  cases d with
  | bl c => cases r; exact ⟨c, rfl, h1 g1 H1 gr ok1⟩
  | _ => exact h1.elim
end
end F
namespace F
open PySem PySem.Spec PyProof.Rows L2
/-! ## the feed, opened -/
def fdGet (key : Str) (cs : List Int) (sp lf tn : Int) : M D :=
  if key = "cells" then .ret (.lst (cs.map D.int)) else if key = "at" then .ret (.int sp) else if key = "left" then .ret (.int lf) else if key = "count" then .ret (.int tn) else .bad
def fdSet (key : Str) (z : Int) (cs : List Int) (sp lf tn : Int) : Option OS :=
  if key = "at" then some (.fd cs z lf tn) else if key = "left" then some (.fd cs sp z tn) else if key = "count" then some (.fd cs sp lf z) else none
def getFd (ρ : Ev) (i : Nat) (k : Nat → List OS → List Int → Int → Int → Int → M α) : M α := match ρ[i]? with
  | some (.v (.obj o)) => .get fun S => match S[o]? with
    | some (.fd cs sp lf tn) => k o S cs sp lf tn
    | _ => .bad
  | _ => .bad
def eFget (i : Nat) (key : Str) : Ev → M D := fun ρ => getFd ρ i fun o S cs sp lf tn => fdGet key cs sp lf tn
def sFput (i : Nat) (key : Str) (m : Ev → M D) : SM := fun ρ => m ρ >>= fun d => getFd ρ i fun o S cs sp lf tn => match d with
  | .int z => match fdSet key z cs sp lf tn with
    | some x => .put (S.set o x) (.ret (.nx ρ))
    | none => .bad
  | _ => .bad
theorem get_fd {α : Type} {ρ : Ev} {i : Nat} {k : Nat → List OS → List Int → Int → Int → Int → M α} {S : List OS} {Q : α → List OS → Prop} {E : Ex → List OS → Prop} (h : wp (getFd ρ i k) S Q E) : ∃ o cs sp lf tn, ρ[i]? = some (.v (.obj o)) ∧ S[o]? = some (.fd cs sp lf tn) ∧ wp (k o S cs sp lf tn) S Q E := by
  unfold getFd at h
  split at h
  · rename_i o e
    have h : wp (match S[o]? with | some (.fd cs sp lf tn) => k o S cs sp lf tn | _ => .bad) S Q E := h
    split at h
    · rename_i cs sp lf tn e2
      exact ⟨o, cs, sp, lf, tn, e, e2, h⟩
    · exact h.elim
  · exact h.elim
theorem fd_at {K : PySem.W.Frag} {S : List OS} {g : Gw} {H : Hp} {L : Addr → Prop} {σ : L2.St} {ρ : Ev} {i o : Nat} {cs : List Int} {sp lf tn : Int} (ok : StOk K S g H) (en : EnvOk K L g H σ ρ) (h1 : ρ[i]? = some (.v (.obj o))) (h2 : S[o]? = some (.fd cs sp lf tn)) :
    ∃ a c, σ[i]? = some (some (.ref a)) ∧ g.θ[o]? = some a ∧ H a = some (.dK (feedKVs c sp lf tn)) ∧ g.F c = some (.lst (cs.map V.int)) := by
  obtain ⟨sv, e1, v, rfl, r⟩ := slot_of en h1
  cases r with
  | obj e =>
    obtain ⟨c, q1, q2⟩ := ok.obj _ _ _ e h2
    exact ⟨_, c, e1, e, q1, q2⟩
theorem intsL {K : PySem.W.Frag} {F : Hp} {θ : List Addr} : ∀ cs : List Int, RepL K F θ (cs.map V.int) (cs.map D.int)
  | [] => .nil
  | c :: cs => .cons (.int c) (intsL cs)
theorem kne_of {a b : Str} {v : V} (h : a ≠ b) : ¬ ((Sum.inr a : Key), v).1 = (Sum.inr b : Key) := fun e => h (Sum.inr.inj e)
section
variable {X : Cx} {E : XK} {g0 : Gw} {H0 : Hp} {ma : Ev → M D} {x : Str} {key : Str} {px kp pos pos' : Pos} {kk : Nat} {value : Expr}
theorem re_fget (i : Nat) (hu : X.A.units + 65 < cLine) (hN : X.N[i]? = some x := by rfl) (hv : Vis X.env.scope x := by first | exact Or.inl rfl | exact Or.inr (Or.inl rfl) | exact Or.inr (Or.inr rfl)) (hd : (x == ("__debug__" : Str)) = false := by decide)
    (hcd : (x == ("__classdict__" : Str)) = false := by decide) (hs : NoSl (.Constant (.str key) kk kp) := by exact fun _ _ => rfl) : RE X E (.Subscript (.Name x px) (.Constant (.str key) kk kp) pos) (eFget i key) := by
  refine pe_weak (pe_dget (by omega) (pe_var hN hv hd hcd) pe_str hs) fun σ H Q ⟨g, S, ρ, L, ok, en, h⟩ => ?_
  obtain ⟨o, cs, sp, lf, tn, h1, h2, h⟩ := get_fd h
  obtain ⟨a, c, e1, e2, hH, hF⟩ := fd_at ok en h1 h2
  refine ⟨_, e1, a, ?_⟩
  have G := DGet.k (k := .inr key) hH
  have go : ∀ (v : V) (d : D), valV (feedKVs c sp lf tn) (.inr key) = some v → Rep X.K g.F g.θ v d → fdGet key cs sp lf tn = .ret d → ∃ v, (V.ref a = .ref a) ∧ DGet H a (.str key) (some v) ∧ Q v H := fun v d ev r er => by
    rw [er] at h
    exact ⟨v, rfl, by rw [← ev]; exact G, h g H v .refl ok r⟩
  unfold fdGet at h go
  by_cases k1 : key = "cells"
  · subst k1; exact go (.ref c) _ (by unfold feedKVs; exact valV_pos rfl) (.lst hF (intsL cs)) (if_pos rfl)
  rw [if_neg k1] at h go
  by_cases k2 : key = "at"
  · subst k2; exact go (.int sp) _ (by unfold feedKVs; rw [valV_neg (kne_of (by decide))]; exact valV_pos rfl) (.int _) (if_pos rfl)
  rw [if_neg k2] at h go
  by_cases k3 : key = "left"
  · subst k3; exact go (.int lf) _ (by unfold feedKVs; rw [valV_neg (kne_of (by decide)), valV_neg (kne_of (by decide))]; exact valV_pos rfl) (.int _) (if_pos rfl)
  rw [if_neg k3] at h go
  by_cases k4 : key = "count"
  · subst k4; exact go (.int tn) _ (by unfold feedKVs; rw [valV_neg (kne_of (by decide)), valV_neg (kne_of (by decide)), valV_neg (kne_of (by decide))]; exact valV_pos rfl) (.int _) (if_pos rfl)
  rw [if_neg k4] at h
  exact h.elim
theorem fd_put {K : PySem.W.Frag} {S : List OS} {g : Gw} {H : Hp} {o : Nat} {a : Addr} {x : OS} {u u' : HO} (ok : StOk K S g H) (e : g.θ[o]? = some a) (hu : H a = some u) (hx : OSOk K g (upd H a u') a x) : StOk K (S.set o x) g (upd H a u') ∧ Grow g H g (upd H a u') := by
  have hm : a ∈ g.θ := List.mem_of_getElem? e
  refine ⟨⟨fun b y h => ?_, ok.mt, by rw [List.length_set]; exact ok.len, ok.nd, fun n b y h1 h2 => ?_⟩, ⟨fun b h => ?_, fun b y h hn => ?_, ⟨[], by simp, by simp⟩, fun _ _ h => h, fun _ _ h => .inl h⟩⟩
  · rw [upd_ne fun q => by rw [q, ok.mt a hm] at h; cases h]; exact ok.sub _ _ h
  · by_cases hn : o = n
    · subst hn
      have hb : b = a := Option.some.inj (h1.symm.trans e)
      subst hb
      rw [List.getElem?_set_self (by have := (List.getElem?_eq_some_iff.mp h2).1; simpa using this)] at h2
      cases h2
      exact hx
    · rw [List.getElem?_set_ne hn] at h2
      have hb : b ≠ a := fun q => by
        subst q
        obtain ⟨l1, q1⟩ := List.getElem?_eq_some_iff.mp e
        obtain ⟨l2, q2⟩ := List.getElem?_eq_some_iff.mp h1
        exact hn ((List.getElem_inj ok.nd).mp (q1.trans q2.symm))
      exact (ok.obj n b y h1 h2).mono (upd_ne hb) fun _ _ z => z
  · by_cases q : b = a
    · subst q; rw [upd_same] at h; cases h
    · rw [upd_ne q] at h; exact h
  · rw [upd_ne fun q => hn (by rw [q]; exact hm)]; exact h
theorem fdSet_put {key : Str} {z : Int} {cs : List Int} {sp lf tn : Int} {c : Addr} {x : OS} (h : fdSet key z cs sp lf tn = some x) : ∃ sp' lf' tn', putK (feedKVs c sp lf tn) (.inr key) (.int z) = feedKVs c sp' lf' tn' ∧ x = .fd cs sp' lf' tn' := by
  unfold fdSet at h
  by_cases k2 : key = "at"
  · rw [if_pos k2] at h; cases h; subst k2; exact ⟨z, lf, tn, by rfl, rfl⟩
  rw [if_neg k2] at h
  by_cases k3 : key = "left"
  · rw [if_pos k3] at h; cases h; subst k3; exact ⟨sp, z, tn, by rfl, rfl⟩
  rw [if_neg k3] at h
  by_cases k4 : key = "count"
  · rw [if_pos k4] at h; cases h; subst k4; exact ⟨sp, lf, z, by rfl, rfl⟩
  rw [if_neg k4] at h; cases h
theorem rs_fput (i : Nat) (hu : X.A.units + 65 < cLine) (ha : RE X E value ma) (hN : X.N[i]? = some x := by rfl) (hv : Vis X.env.scope x := by first | exact Or.inl rfl | exact Or.inr (Or.inl rfl) | exact Or.inr (Or.inr rfl)) (hd : (x == ("__debug__" : Str)) = false := by decide)
    (hcd : (x == ("__classdict__" : Str)) = false := by decide) (hs : swapsWith value (some (.Subscript (.Name x px) (.Constant (.str key) kk kp) pos')) pos.line X.env = pure false := by rfl) :
    RS X g0 H0 E (.Assign [.Subscript (.Name x px) (.Constant (.str key) kk kp) pos'] value pos) (sFput i key ma) := by
  refine ps_weak (ps_dput (by omega) (pe_var hN hv hd hcd) pe_str ha hs) fun W σ H h => to_e (k := fun d ρ => getFd ρ i fun o S cs sp lf tn => match d with
    | .int z => match fdSet key z cs sp lf tn with
      | some x => .put (S.set o x) (.ret (.nx ρ))
      | none => .bad
    | _ => .bad) (fun _ _ _ z => z) (fun g S ρ d v H' gr ok en r zz => ?_) h
  obtain ⟨o, cs, sp, lf, tn, h1, h2, h⟩ := get_fd zz
  obtain ⟨a, c, e1, e2, hH, hF⟩ := fd_at ok en h1 h2
  cases d with
  | int z =>
    cases r
    refine ⟨_, e1, a, _, rfl, DPut.k (k := .inr key) hH (by show 4 < sizeLine; decide), ?_⟩
    have h : wp (match fdSet key z cs sp lf tn with
      | some x => .put (S.set o x) (.ret (.nx ρ))
      | none => .bad) S (CP X.K g0 H0 g W) (XP X.K X.mg g0 H0 E) := h
    cases q : fdSet key z cs sp lf tn with
    | none => rw [q] at h; exact h.elim
    | some x' =>
      rw [q] at h
      obtain ⟨sp', lf', tn', q1, rfl⟩ := fdSet_put (c := c) q
      rw [q1]
      obtain ⟨ok2, gr2⟩ := fd_put (x := .fd cs sp' lf' tn') (u' := .dK (feedKVs c sp' lf' tn')) ok e2 hH ⟨c, upd_same, hF⟩
      exact h g _ σ (gr.trans gr2) ⟨fun _ _ z => z, fun _ _ z => z⟩ ok2 (en.grow gr2)
  | _ => exact h.elim
end
/-- the draw as it is asked for -/
def drawM : List D → M D
  | [.obj o, .int n] => .draw o n fun i => .ret (.int i)
  | _ => .bad
def DrawOk (bm : List D → M D) : Prop := ∀ (o : Nat) (n : Int) (S : List OS) (cs : List Int) (sp lf tn : Int), S[o]? = some (.fd cs sp lf tn) → 0 < n → n < 1073741824 →
  wp (bm [.obj o, .int n]) S (fun d S' => ∃ i cs sp lf tn, d = .int i ∧ 0 ≤ i ∧ i < n ∧ S' = S.set o (.fd cs sp lf tn)) (fun _ _ => False)
theorem StOk.opened {K : PySem.W.Frag} {S : List OS} {g : Gw} {H : Hp} {o : Nat} (ok : StOk K S g H) (h : S[o]? = some .feed) : ∃ cs sp lf tn, StOk K (S.set o (.fd cs sp lf tn)) g H := by
  have hl := (List.getElem?_eq_some_iff.mp h).1
  have hl2 : o < g.θ.length := by rw [← ok.len]; exact hl
  obtain ⟨c, cs, sp, lf, tn, h1, h2⟩ := ok.obj o _ _ (List.getElem?_eq_getElem hl2) h
  refine ⟨cs, sp, lf, tn, ok.sub, ok.mt, by rw [List.length_set]; exact ok.len, ok.nd, fun n b y e1 e2 => ?_⟩
  by_cases hn : o = n
  · subst hn
    rw [List.getElem?_set_self hl] at e2
    rw [List.getElem?_eq_getElem hl2] at e1
    cases e1; cases e2
    exact ⟨c, h1, h2⟩
  · rw [List.getElem?_set_ne hn] at e2
    exact ok.obj n b y e1 e2
theorem StOk.closed {K : PySem.W.Frag} {S : List OS} {g : Gw} {H : Hp} {o : Nat} {cs : List Int} {sp lf tn : Int} (h : S[o]? = some .feed) (ok : StOk K (S.set o (.fd cs sp lf tn)) g H) : StOk K S g H := by
  have hl := (List.getElem?_eq_some_iff.mp h).1
  refine ⟨ok.sub, ok.mt, by rw [← ok.len, List.length_set], ok.nd, fun n b y e1 e2 => ?_⟩
  by_cases hn : o = n
  · subst hn
    rw [h] at e2
    cases e2
    obtain ⟨c, h1, h2⟩ := ok.obj o b _ e1 (List.getElem?_set_self hl)
    exact ⟨c, cs, sp, lf, tn, h1, h2⟩
  · exact ok.obj n b y e1 (by rw [List.getElem?_set_ne hn]; exact e2)
theorem draw_sp {P : Program} {w : World} {K : PySem.W.Frag} {mg : Str → Option Value} {base : Heap} {k : Nat} {f : Addr} {fd : FuncData} {ps : List Str} {bm : List D → M D} (hb : DrawOk bm) (G : FnG P w K mg base k f fd ps (spM K mg 2 bm)) : FnG P w K mg base k f fd ps (spM K mg 2 drawM) := by
  have key : ∀ vs H Q E, spM K mg 2 drawM vs H Q E → spM K mg 2 bm vs H Q E := fun vs H Q E ⟨hl, g, S, ds, ok, r, h⟩ => by
    refine ⟨hl, ?_⟩
    match ds, h with
    | [.obj o, .int n], h =>
      obtain ⟨⟨x, h1, rfl⟩, h2, h3, h4⟩ := h
      obtain ⟨cs, sp, lf, tn, ok2⟩ := ok.opened h1
      have hl := (List.getElem?_eq_some_iff.mp h1).1
      refine ⟨g, _, _, ok2, r, wp_mono (hb o n _ cs sp lf tn (List.getElem?_set_self hl) h2 h3) (fun d S' ⟨i, cs', sp', lf', tn', e1, i0, i1, e2⟩ => ?_) fun _ _ z => z.elim⟩
      subst e1 e2
      intro g' H' v gr ok' rv
      rw [List.set_set] at ok'
      exact h4 i i0 i1 g' H' v gr (ok'.closed h1) rv
    | [], h => exact h.elim
    | [_], h => cases ‹D› <;> exact h.elim
    | a :: b :: c :: l, h => cases a <;> cases b <;> exact h.elim
    | [.non, _], h | [.bl _, _], h | [.int _, _], h | [.str _, _], h | [.tup _, _], h | [.lst _, _], h | [.dic _, _], h | [.scr _, _], h => exact h.elim
    | [.obj _, .non], h | [.obj _, .bl _], h | [.obj _, .str _], h | [.obj _, .tup _], h | [.obj _, .lst _], h | [.obj _, .dic _], h | [.obj _, .obj _], h | [.obj _, .scr _], h => exact h.elim
  exact ⟨fun vs H Q E h => G.len vs H Q E (key _ _ _ _ h), fun A outer s H args us vs Q E hr hgd e0 hbd r hsp => G.go A outer s H args us vs Q E hr hgd e0 hbd r (key _ _ _ _ hsp)⟩
theorem draw_fnc {P : Program} {w : World} {K : PySem.W.Frag} {mg : Str → Option Value} {base : Heap} {k : Nat} {x : Str} {bm : List D → M D} (hb : DrawOk bm) (G : Fnc P w K mg base k x 2 bm) : Fnc P w K mg base k x 2 drawM := by
  obtain ⟨f, fd, ps, F, r⟩ := G.ex
  exact ⟨f, fd, ps, draw_sp hb F, r⟩
end F
namespace F
open PySem PySem.Spec PyProof.Rows L2
/-! ## reckoning -/
section
variable {α β : Type} {S : List OS} {Q : α → List OS → Prop} {E : Ex → List OS → Prop}
theorem wp_ret (a : α) : wp (.ret a) S Q E = Q a S := rfl
theorem wp_err (e : Ex) : wp (.err e : M α) S Q E = E e S := rfl
theorem wp_bad : wp (.bad : M α) S Q E = False := rfl
theorem wp_put (s : List OS) (k : M α) : wp (.put s k) S Q E = wp k s Q E := rfl
theorem wp_get (k : List OS → M α) : wp (.get k) S Q E = wp (k S) S Q E := rfl
theorem wp_b {f : β → M α} {m : M β} : wp (m >>= f) S Q E = wp m S (fun a s' => wp (f a) s' Q E) E := propext wp_bind
theorem wp_if {c : Prop} [Decidable c] {m n : M α} : wp (if c then m else n) S Q E = if c then wp m S Q E else wp n S Q E := by
  by_cases h : c
  · rw [if_pos h, if_pos h]
  · rw [if_neg h, if_neg h]
theorem wp_getFd {ρ : Ev} {i o : Nat} {k : Nat → List OS → List Int → Int → Int → Int → M α} {cs : List Int} {sp lf tn : Int} (e1 : ρ[i]? = some (.v (.obj o))) (e2 : S[o]? = some (.fd cs sp lf tn)) : wp (getFd ρ i k) S Q E = wp (k o S cs sp lf tn) S Q E := by
  unfold getFd
  rw [e1]
  show wp (.get _) S Q E = _
  rw [wp_get, e2]
end
theorem shL_ints : ∀ cs : List Int, D.plL (cs.map D.int) = true ∧ D.depL (cs.map D.int) = 0
  | [] => ⟨rfl, rfl⟩
  | c :: cs => by
    obtain ⟨h1, h2⟩ := shL_ints cs
    exact ⟨by simp [D.plL, D.pl, h1], by simp [D.depL, D.dep, h2]⟩
theorem sh_ints (cs : List Int) : (D.lst (cs.map D.int)).sh = true := by
  obtain ⟨h1, h2⟩ := shL_ints cs
  simp [D.sh, D.pl, D.dep, h1, h2]
theorem ne_nil_ints (cs : List Int) : neM (.lst (cs.map D.int)) (.lst []) = .ret (.bl (!cs.isEmpty)) := by
  unfold neM
  rw [if_pos (by rw [sh_ints]; simp [D.sh, D.pl, D.dep, D.plL, D.depL])]
  cases cs <;> simp [D.eqv, D.eqvL]
theorem fg_cells (cs sp lf tn) : fdGet "cells" cs sp lf tn = .ret (.lst (cs.map D.int)) := by unfold fdGet; rw [if_pos rfl]
theorem fg_spot (cs sp lf tn) : fdGet "at" cs sp lf tn = .ret (.int sp) := by unfold fdGet; rw [if_neg (by decide), if_pos rfl]
theorem fg_left (cs sp lf tn) : fdGet "left" cs sp lf tn = .ret (.int lf) := by unfold fdGet; rw [if_neg (by decide), if_neg (by decide), if_pos rfl]
theorem fg_turns (cs sp lf tn) : fdGet "count" cs sp lf tn = .ret (.int tn) := by unfold fdGet; rw [if_neg (by decide), if_neg (by decide), if_neg (by decide), if_pos rfl]
theorem fs_spot (z cs sp lf tn) : fdSet "at" z cs sp lf tn = some (.fd cs z lf tn) := by unfold fdSet; rw [if_pos rfl]
theorem fs_left (z cs sp lf tn) : fdSet "left" z cs sp lf tn = some (.fd cs sp z tn) := by unfold fdSet; rw [if_neg (by decide), if_pos rfl]
theorem fs_turns (z cs sp lf tn) : fdSet "count" z cs sp lf tn = some (.fd cs sp lf z) := by unfold fdSet; rw [if_neg (by decide), if_neg (by decide), if_pos rfl]
theorem wp_fd {α : Type} {ρ : Ev} {o : Nat} {S : List OS} {k : Nat → List OS → List Int → Int → Int → Int → M α} {cs : List Int} {sp lf tn : Int} {Q : α → List OS → Prop} {E : Ex → List OS → Prop} (hl : o < S.length) :
    wp (getFd (.v (.obj o) :: ρ) 0 k) (S.set o (.fd cs sp lf tn)) Q E = wp (k o (S.set o (.fd cs sp lf tn)) cs sp lf tn) (S.set o (.fd cs sp lf tn)) Q E :=
  wp_getFd rfl (List.getElem?_set_self hl)
theorem ix_ints (cs : List Int) (i : Int) (h0 : 0 ≤ i) (h1 : i < cs.length) : ∃ c, idxM (.lst (cs.map D.int)) (.int i) = .ret (.int c) := by
  have hl : i.toNat < (cs.map D.int).length := by rw [List.length_map]; omega
  have e : atI (cs.map D.int) i = some (.int (cs[i.toNat]'(by rw [List.length_map] at hl; exact hl))) := by
    unfold atI ixN
    rw [if_pos h0, if_pos (by rw [List.length_map]; exact h1)]
    show (cs.map D.int)[i.toNat]? = _
    rw [List.getElem?_eq_getElem hl, List.getElem_map]
  exact ⟨_, by show (match atI (cs.map D.int) i with | some x => M.ret x | none => .bad) = _; rw [e]⟩
theorem mul_mod1 (a c j : Int) (h0 : 0 < c) (h1 : c < 2 ^ 64) : mulM (.int (a.fmod c)) (.int j) = .ret (.int (a.fmod c * j)) := by
  have := Int.fmod_nonneg_of_pos a h0
  have := Int.fmod_lt_of_pos a h0
  exact if_pos (.inl ⟨by omega, by omega⟩)
theorem mul_r (i j : Int) (h0 : -(2 ^ 64) < j) (h1 : j < 2 ^ 64) : mulM (.int i) (.int j) = .ret (.int (i * j)) := if_pos (.inr ⟨h0, h1⟩)
theorem mul_l (i j : Int) (h0 : -(2 ^ 64) < i) (h1 : i < 2 ^ 64) : mulM (.int i) (.int j) = .ret (.int (i * j)) := if_pos (.inl ⟨h0, h1⟩)
theorem mod_n (i j : Int) (h : j ≠ 0) : modM (.int i) (.int j) = .ret (.int (i.fmod j)) := if_pos h
theorem fdiv_n (i j : Int) (h : j ≠ 0) (h1 : j.natAbs < 1073741824) : fdivM (.int i) (.int j) = .ret (.int (i.fdiv j)) := if_pos ⟨h, h1⟩
theorem add_i (i j : Int) : addM (.int i) (.int j) = .ret (.int (i + j)) := rfl
theorem sub_i (i j : Int) : subM (.int i) (.int j) = .ret (.int (i - j)) := rfl
theorem gt_i (i j : Int) : gtM (.int i) (.int j) = .ret (.bl (decide (j < i))) := rfl
theorem ge_i (i j : Int) : geM (.int i) (.int j) = .ret (.bl (decide (j ≤ i))) := rfl
theorem lt_i (i j : Int) : ltM (.int i) (.int j) = .ret (.bl (decide (i < j))) := rfl
theorem le_i (i j : Int) : leM (.int i) (.int j) = .ret (.bl (decide (i ≤ j))) := rfl
theorem pow_18 : powM (.int 10) (.int 18) = .ret (.int 1000000000000000000) := rfl
theorem len_l (xs : List D) : lenM (.lst xs) = .ret (.int xs.length) := rfl
theorem len_t (xs : List D) : lenM (.tup xs) = .ret (.int xs.length) := rfl
theorem asB_b (b : Bool) : asB (.bl b) = .ret b := rfl
theorem nLst_nil (ρ : Ev) : nLst aNil ρ = .ret [] := rfl
/-- how a draw ends -/
def DrQ (o : Nat) (n : Int) (S : List OS) : D → List OS → Prop := fun d S' => ∃ i cs sp lf tn, d = .int i ∧ 0 ≤ i ∧ i < n ∧ S' = S.set o (.fd cs sp lf tn)
theorem drQ {o : Nat} {n : Int} {S : List OS} (h0 : 0 < n) (z : Int) (cs : List Int) (sp lf tn : Int) : DrQ o n S (.int (z.fmod n)) (S.set o (.fd cs sp lf tn)) :=
  ⟨_, cs, sp, lf, tn, rfl, Int.fmod_nonneg_of_pos _ h0, Int.fmod_lt_of_pos _ h0, rfl⟩
theorem DrawOk.of {bm : List D → M D} (h : ∀ (o : Nat) (n : Int) (S : List OS) (cs : List Int) (sp lf tn : Int), o < S.length → 0 < n → n < 1073741824 → n ≠ 0 → n.natAbs < 1073741824 → wp (bm [.obj o, .int n]) (S.set o (.fd cs sp lf tn)) (DrQ o n S) (fun _ _ => False)) : DrawOk bm := by
  intro o n S cs sp lf tn e h0 h1
  obtain ⟨hl, e2⟩ := List.getElem?_eq_some_iff.mp e
  have hS : S.set o (.fd cs sp lf tn) = S := by rw [← e2, List.set_getElem_self]
  have q := h o n S cs sp lf tn hl h0 h1 (by omega) (by omega)
  rw [hS] at q
  exact q
theorem ne_nil0 : neM (.lst []) (.lst []) = .ret (.bl false) := ne_nil_ints []
end F
namespace F
open PySem PySem.Spec PyProof.Rows L2
section
variable {K : PySem.W.Frag} {S : List OS} {g g1 : Gw} {H H1 : Hp}
/-- a new object of the store -/
theorem StOk.addo (ok : StOk K S g H) {p : Addr} {o o' : HO} {x : OS} (hp : H p = some o) (hF : g.F p = none) (hθ : p ∉ g.θ) (hx : OSOk K ⟨g.F, g.θ ++ [p]⟩ (upd H p o') p x) : StOk K (S ++ [x]) ⟨g.F, g.θ ++ [p]⟩ (upd H p o') := by
  refine ⟨fun a y h => ?_, fun a h => ?_, by simp [ok.len], ?_, fun n a y h1 h2 => ?_⟩
  · rw [upd_ne (ne_of_none h hF)]; exact ok.sub _ _ h
  · rcases List.mem_append.mp h with h | h
    · exact ok.mt a h
    · have e : a = p := by simpa using h
      subst e; exact hF
  · refine List.nodup_append.mpr ⟨ok.nd, by simp, fun a ha b hb e => hθ ?_⟩
    have hb' : b = p := by simpa using hb
    rw [← hb', ← e]; exact ha
  · by_cases hn : n < g.θ.length
    · have h1 : (g.θ ++ [p])[n]? = some a := h1
      rw [List.getElem?_append_left hn] at h1
      rw [List.getElem?_append_left (by rw [ok.len]; exact hn)] at h2
      have hb : a ≠ p := fun e => hθ (by rw [← e]; exact List.mem_of_getElem? h1)
      exact (ok.obj n a y h1 h2).mono (upd_ne hb) fun _ _ z => z
    · have h1 : (g.θ ++ [p])[n]? = some a := h1
      rw [List.getElem?_append_right (by omega)] at h1
      rw [List.getElem?_append_right (by rw [ok.len]; omega), ok.len] at h2
      have hz : n - g.θ.length = 0 := by
        have := (List.getElem?_eq_some_iff.mp h1).1
        simpa using this
      rw [hz] at h1 h2
      cases h1; cases h2
      exact hx
end
/-! ### the feed is made -/
def eFeed (m : Ev → M (List D)) : Ev → M D := fun ρ => m ρ >>= fun ds => match intsOf ds with
  | some _ => .get fun S => .put (S ++ [.feed]) (.ret (.obj S.length))
  | none => .bad
section
variable {X : Cx} {E : XK} {a : Expr} {m : Ev → M (List D)} {pos p1 p2 p3 p4 q2 q3 q4 : Pos} {k1 k2 k3 k4 j2 j3 j4 : Nat}
theorem re_feed (ha : RN X E a m) : RE X E (.Dict [some (.Constant (.str "cells") k1 p1), some (.Constant (.str "at") k2 p2), some (.Constant (.str "left") k3 p3), some (.Constant (.str "count") k4 p4)] [a, .Constant (.int 0) j2 q2, .Constant (.int 0) j3 q3, .Constant (.int 0) j4 q4] pos) (eFeed m) := by
  refine pe_weak (pe_disp (pps_cons pe_str ha (pps_cons pe_str pe_int (pps_cons pe_str pe_int (pps_cons pe_str pe_int pps_nil)))) rfl rfl (by simp) (Nat.le_of_ble_eq_true rfl)) fun σ H Q ⟨g, S, ρ, L, ok, en, h⟩ p hp => ?_
  obtain ⟨ok0, gr0, hF0, hθ0⟩ := ok.made (o := .dK []) hp
  refine ⟨g, S, ρ, L, ok0, en.grow gr0, wp_mono (wp_bind.mp h) (fun ds S1 h1 g1 H1 b vs gr ok1 n1 n2 n3 n4 r => ?_) fun _ _ z => z.grow gr0⟩
  cases ei : intsOf ds with
  | none => simp only [ei] at h1; exact h1.elim
  | some ns =>
    simp only [ei] at h1
    have h1 : VP X.K g H Q (.obj S1.length) (S1 ++ [.feed]) := h1
    have evs : vs = ns.map V.int := repL_ints (by rw [intsOf_map ei] at r; exact r)
    subst evs
    have np : (upd H p (HO.dK [])) p = some (.dK []) := upd_same
    have hp1 := gr.keep p _ np hθ0
    have own := (show OwnAt g (fun _ => True) p from ⟨trivial, hF0, hθ0⟩).grow np gr
    have hbp : b ≠ p := fun e => by subst e; rw [np] at n1; cases n1
    refine ⟨hp1, feedKVs b 0 0 0, rfl, by show (4 : Nat) ≤ 15; decide, ?_⟩
    have em : mergeK [] (feedKVs b 0 0 0) = feedKVs b 0 0 0 := rfl
    rw [em]
    have okF := ok1.froze n2 n3 n4
    have hFp : (upd g1.F b (.lst (ns.map V.int))) p = none := by rw [upd_ne (Ne.symm hbp)]; exact own.2.1
    have okP := okF.addo (x := .feed) (o' := .dK (feedKVs b 0 0 0)) hp1 hFp own.2.2 ⟨b, ns, 0, 0, 0, upd_same, upd_same⟩
    have grA := gr0.trans gr
    have n1' : H b = none := by rw [upd_ne hbp] at n1; exact n1
    have gl := grA.lay (vs := ns.map V.int) n1' n3
    refine h1 ⟨upd g1.F b (.lst (ns.map V.int)), g1.θ ++ [p]⟩ _ (.ref p) ⟨fun c e => ?_, fun c o e hn => ?_, ?_, gl.fm, gl.fn⟩ okP (.obj ?_)
    · by_cases hc : c = p
      · subst hc; exact hp
      · rw [upd_ne hc] at e; exact grA.dom c e
    · rw [upd_ne fun hc => by subst hc; rw [hp] at e; cases e]; exact grA.keep c o e hn
    · obtain ⟨ext, q1, q2⟩ := gl.th
      refine ⟨ext ++ [p], by show g1.θ ++ [p] = _; rw [show g1.θ = g.θ ++ ext from q1, List.append_assoc], fun c hc => ?_⟩
      rcases List.mem_append.mp hc with hc | hc
      · exact q2 c hc
      · have e : c = p := by simpa using hc
        subst e; exact hp
    · show (g1.θ ++ [p])[S1.length]? = some p
      rw [List.getElem?_append_right (by rw [ok1.len]; exact Nat.le_refl _), ok1.len]
      simp
end
end F
namespace F
open PySem PySem.Spec PyProof.Rows L2
/-! ## the law's call -/
theorem noCX {P : Program} {w : World} {H : Hp} {s s' : Shared} {e : Value} {o : List PySem.Env} (h : L2.CX P w o H s (fun _ _ _ => False) e s') : False := by
  obtain ⟨_, _, _, _, _, _, _, _, _, _, _, _, z⟩ := h
  exact z
/-- what the script's place holds: nothing, or the frozen list -/
def scH (a : Addr) (o : Obj) (xs : List V) (t : Bool) : Hp := fun b => if b = a ∧ t = true then some (.frz o (.lst xs)) else none
theorem scH_some {a b : Addr} {o : Obj} {xs : List V} {t : Bool} {u : HO} (h : scH a o xs t b = some u) : b = a ∧ t = true ∧ u = .frz o (.lst xs) := by
  unfold scH at h
  by_cases q : b = a ∧ t = true
  · rw [if_pos q] at h; exact ⟨q.1, q.2, (Option.some.inj h).symm⟩
  · rw [if_neg q] at h; cases h
theorem scH_none {a b : Addr} {o : Obj} {xs : List V} {t : Bool} (h : b ≠ a ∨ t = false) : scH a o xs t b = none := if_neg fun q => by
  rcases h with h | h
  · exact h q.1
  · rw [h] at q; cases q.2
theorem lawG {P : Program} {w : World} {K : PySem.W.Frag} {mg mb : Str → Option Value} {k : Nat} {fa a : Addr} {x : Str} {bm : List D → M D} {s1 : Shared} {vs : List Value} {ns : List Int}
    (KX : K.In s1.heap) (hns : s1.heap.Ns mainGlobals mg) (hb : s1.heap.Ns builtinsNs mb) (hbb : ∀ x : Str, x ≠ "__name__" → mb x = bootBuiltins x) (hlim : s1.heap.NoLimit) (hg : s1.gens = #[])
    (ha : s1.heap.get? a = some { cls := .type "list", data := .seq vs.toArray }) (hi : IntsAre vs ns) (hl : ns.length ≤ sizeLine) (hr : Room k callerA)
    (F : ∀ base : Heap, K.In base → base.Ns mainGlobals mg → Fnc P w K mg base k x 1 bm) (hmg : mg x = some (.ref fa)) (hw : wp (bm [.scr ns]) [] (fun d _ => d = .bl true) (fun _ _ => False)) :
    codeAny (model P w) callerA (.call (.ref fa) ⟨[.ref a], []⟩) (fun r s' => r = .ok (.ret (.bool true)) ∧ OldK s1.heap s'.heap ∧ s'.os = s1.os ∧ AllBare s'.gens) s1 := by
  have rv := vals_ints hi
  let ob : Obj := { cls := .type "list", data := .seq vs.toArray }
  have go : ∀ t : Bool, (t = true → K.lookup a = none) → SqL K (scH a ob (ns.map V.int) t) a (ns.map V.int) → codeAny (model P w) callerA (.call (.ref fa) ⟨[.ref a], []⟩) (fun r s' => r = .ok (.ret (.bool true)) ∧ OldK s1.heap s'.heap ∧ s'.os = s1.os ∧ AllBare s'.gens) s1 := by
    intro t ht hS
    generalize hH : scH a ob (ns.map V.int) t = H at hS
    have hA : ∀ b u, H b = some u → b = a ∧ t = true ∧ u = .frz ob (.lst (ns.map V.int)) := fun b u e => by rw [← hH] at e; exact scH_some e
    have hN : ∀ b, b ≠ a → H b = none := fun b n => by rw [← hH]; exact scH_none (.inl n)
    have see : ∀ {b : Addr} {o : Obj}, s1.heap.get? b = some o → H b = none → (hidT s1.heap H).get? b = some o := fun e n => hidT_get e n
    have dictN : ∀ {b : Addr} {o : Obj} {es : Array DictEntry} {ep : Nat}, s1.heap.get? b = some o → o.data = .dict es ep → H b = none := fun {b o es ep} e d => hN b fun q => by
      subst q
      rw [ha] at e
      cases e
      exact absurd (show Data.seq vs.toArray _ = Data.dict es ep from d) (by simp)
    have nsK : ∀ {b : Addr} {m : Str → Option Value}, s1.heap.Ns b m → (hidT s1.heap H).Ns b m := fun {b m} ⟨o, es, ep, e, d, r⟩ => ⟨o, es, ep, see e (dictN e d), d, r⟩
    have hKb : K.In (hidT s1.heap H) := fun b o e => see (KX b o e) (by
      cases q : H b with
      | none => rfl
      | some u =>
        obtain ⟨e1, e2, _⟩ := hA b u q
        subst e1
        rw [ht e2] at e; cases e)
    have hok : HOk P w H s1.heap := fun b u z => by
      obtain ⟨e1, _, e3⟩ := hA b u z
      subst e1 e3
      exact ⟨ha, by rw [List.length_map]; exact hl, vs, _, rv, ha⟩
    have hM : Mod K mg (hidT s1.heap H) := ⟨hKb, nsK hns, ⟨mb, nsK hb, hbb⟩, let ⟨mc, h1, h2⟩ := hlim; ⟨mc, nsK h1, h2⟩⟩
    have e0 : Env0 P w K mg (hidT s1.heap H) callerA [] s1 H := ⟨rfl, hM, fun b o e => of_hidT e, Nat.le_of_eq (hidT_size _ _), trivial, fun b hb => absurd (show b ∈ ([] : List Addr) from hb) (by simp), hok, .of_eq hg⟩
    obtain ⟨f, fd, ps, G, hm, hk, hbi, hn1⟩ := (F _ hKb (nsK hns)).ex
    have ef : f = fa := by rw [hm] at hmg; injection hmg with z; injection z
    subst ef
    have hbd : BindsTo s1 fd ⟨[.ref a], []⟩ (ps.zip [.ref a]) := by
      have z := hbi s1 [.ref a] KX (by rw [hn1]; rfl)
      rw [List.append_nil] at z; exact z
    have hsp : spM K mg 1 bm [.ref a] H (fun v _ => v = .bl true) (fun _ _ _ => False) := by
      refine ⟨rfl, ⟨H, []⟩, [], [.scr ns], ⟨fun _ _ z => z, fun _ z => (nomatch z), rfl, List.nodup_nil, fun n b y z _ => (nomatch z)⟩, .cons (.scr hS) .nil, wp_mono hw (fun d S e => ?_) fun _ _ z => z.elim⟩
      subst e
      intro g' H' v _ _ r
      cases r
      rfl
    refine codeAny_mono (G.go callerA [] s1 H ⟨[.ref a], []⟩ [.ref a] [.ref a] _ _ hr rfl e0 hbd (.cons rfl .nil) hsp) fun r s' h => ?_
    match r, h with
    | .error e, h => exact (noCX h).elim
    | .ok .next, h => exact False.elim h
    | .ok .brk, h => exact False.elim h
    | .ok .cont, h => exact False.elim h
    | .ok (.ret u), h =>
      obtain ⟨v, H', os, bare, un, hok', r', q⟩ := h
      have q' : v = .bl true := q
      subst q'
      obtain rfl : u = Value.bool true := r'
      refine ⟨rfl, OldK.of_keep fun b o e => ?_, os, bare⟩
      cases q : H b with
      | none => exact un.keep b o e q (by intro z; exact absurd (show b ∈ ([] : List Addr) from z) (by simp)) (by simp)
      | some u =>
        obtain ⟨e1, _, e3⟩ := hA b u q
        subst e3
        have z2 := un.frzs b ob _ q
        obtain ⟨w2, _⟩ := hok' b _ z2
        obtain ⟨w1, _⟩ := hok b _ q
        rw [e] at w1; cases w1
        exact w2
  cases hk : K.lookup a with
  | some o =>
    have e := KX a o hk
    rw [ha] at e
    cases e
    exact go false (fun z => nomatch z) (.inr ⟨_, vs.toArray, _, hk, rfl, rfl, rfl, by rw [List.size_toArray, hi.length]; exact hl, by simpa using rv⟩)
  | none => exact go true (fun _ => hk) (.inl (.inr ⟨ob, if_pos ⟨rfl, rfl⟩⟩))
/-- the walk that the head asks for -/
theorem law_walk {l : PySem.W.OpenLaw} {n k : Nat} {q : Program} {loose : List Str} {XP : (Str → Option Value) → Heap → Prop} {d : DefRec} {fa : List He.Fa} {fn : List He.DefD} {ex : PySem.W.Frag → Bool} {bm : List D → M D} {Y : World → Heap → Prop}
    (hn : l.most = some n) (hn2 : n ≤ sizeLine) (hdf : d.params.defaults = []) (hr : Room k callerA) (hY : ∀ w h, Y w h → ∃ K : PySem.W.Frag, K.In h ∧ He.SaysD fa fn K ∧ ex K = true)
    (F : ∀ {w : World} {K : PySem.W.Frag} {mg : Str → Option Value} {base : Heap}, Gd fa fn ex K mg base → Fnc l.prog w K mg base k d.name 1 bm)
    (hw : ∀ ns : List Int, ns.length ≤ n → wp (bm [.scr ns]) [] (fun d _ => d = .bl true) (fun _ _ => False)) :
    PySem.W.WalkO q loose XP Y l.row.toRowW d [] (fun f vs => PySem.call f vs) := by
  refine Att.attach_callB hn hdf fun w s0 s1 mg mb fa' o pm cd doc a vs ns G Yw ho hd hcd hmg hobj hints hlen hbits hg => ?_
  obtain ⟨K, KX, hs, he⟩ := hY w _ Yw
  exact lawG KX G.T.g G.T.b G.T.builtins G.T.nolimit hg hobj hints (Nat.le_trans hlen hn2) hr (fun base hK hN => F ⟨hs, he, hK, hN⟩) hmg (hw ns hlen)
end F
namespace PySem
open Sem (wp)
theorem enum_newT {v : Value} {o : Obj} {H : Heap → Prop} (B : Begins v o H) :
    Meets (Builtin.«enumerate.__new__» ⟨[.type "enumerate", v], []⟩) (fun _ R s => H s.heap ∧
      R (.ok (.ret (.ref (s.heap.push o).objs.size))) { s with heap := (s.heap.push o).push { cls := .type "enumerate", data := .fields #[.none, .bool false, .ref s.heap.objs.size, rawInt 0, .none, .none] } }) :=
  .of_wp fun prog w A R s h => by
    obtain ⟨hp, g, d, tk, os⟩ := s; obtain ⟨h1, h⟩ := h
    have hsub := sub_enumerate
    have q1 : ∀ {A' : Around} {E : Value → Shared → Prop} {Q : Value → Shared → Prop}, Q (.ref hp.objs.size) ⟨hp.push o, g, d, tk, os⟩ → wpAny (model prog w) A' (pyIter v) Q E ⟨hp, g, d, tk, os⟩ := fun q => B.iter prog w _ _ ⟨hp, g, d, tk, os⟩ _ h1 q
    wp_walk using q1
    refine wpAny_stack_any fun st => wpAny_pure ?_
    split
    · rename_i c _ _ _ _ _
      cases (c == Value.type "enumerate") <;> (wp_walk using q1; exact ⟨_, rfl, h⟩)
    · wp_walk using q1
      exact ⟨_, rfl, h⟩
end PySem
namespace L2
open PySem PySem.Spec PyProof.Rows
section
variable {prog : Program} {w : World} {A : Around} {E : Value → Shared → Prop} {s : Shared}
theorem call_enumT {t : Addr} {xs : Array Value} {Q : Value → Shared → Prop} (ht : s.heap.IsTuple t xs)
    (h : ∀ h', IsEnum h' (s.heap.objs.size + 1) s.heap.objs.size 0 .none → h'.IsTupleIter s.heap.objs.size t 0 → (∀ b o, s.heap.get? b = some o → h'.get? b = some o) → Q (.ref (s.heap.objs.size + 1)) { s with heap := h' }) :
    wpAny (model prog w) A (call (.type "enumerate") [.ref t]) Q E s := by
  refine callType_new PySem.F.called_enumerate (by decide) (PySem.F.typeCall_enumerate_1 _) (PySem.F.newCall_enumerate_1 _) (fun obj => PySem.F.args_object_init_2 obj _) PySem.F.entry_enumerate_new (enum_newT (begins_tuple t xs)) ⟨ht, ?_⟩
  have hz : (s.heap.push { cls := .type "tuple_iterator", data := .fields #[.ref t, .int 0 0] }).objs.size = s.heap.objs.size + 1 := Heap.size_push ..
  show _ ∧ _
  rw [hz]
  have he : IsEnum ((s.heap.push { cls := .type "tuple_iterator", data := .fields #[.ref t, .int 0 0] }).push { cls := .type "enumerate", data := .fields #[.none, .bool false, .ref s.heap.objs.size, rawInt 0, .none, .none] }) (s.heap.objs.size + 1) s.heap.objs.size 0 .none := by
    have z := Heap.get?_push_size (s.heap.push { cls := .type "tuple_iterator", data := .fields #[.ref t, .int 0 0] }) (o := { cls := .type "enumerate", data := .fields #[.none, .bool false, .ref s.heap.objs.size, rawInt 0, .none, .none] }) rfl
    rw [hz] at z; exact z
  exact ⟨⟨_, he, rfl⟩, h _ he ⟨_, Heap.get?_push_of_some _ (Heap.get?_push_size _ rfl), rfl, rfl⟩ fun b o x => Heap.get?_push_of_some _ (Heap.get?_push_of_some _ x)⟩
end
section
variable {prog : Program} {w : World} {A : Around} {E : Value → Shared → Prop} {s : Shared}
theorem enum_endT {e it t : Addr} {xs : Array Value} {n : Nat} {i : Int} {old : Value} {Q : Option Value → Shared → Prop} (hh : A.handled = none) (he : IsEnum s.heap e it i old) (hi : s.heap.IsTupleIter it t n) (ht : s.heap.IsTuple t xs) (hx : xs.size ≤ n)
    (hQ : ∀ h', Heap.ExtBut it s.heap h' → Q none { s with heap := h' }) : wpAny (model prog w) A (pyNext (.ref e)) Q E s := by
  have hT : s.TypeIs (.ref e) "enumerate" := ⟨_, he, rfl⟩
  unfold pyNext
  refine wpAny_bind (wpAny_attempt (wpAny_callSpecial?_slot (name := Str.ofString "__next__") hT PySem.F.slot_enumerate_next (wpAny_call_entry PySem.F.slot_enumerate_next hT PySem.F.entry_enumerate_next ?_ (PySem.F.args_enumerate_next_1 _))))
  show wpAny _ _ (field (.ref e) 2 >>= _) _ _ _
  refine wpAny_bind (wpAny_field he rfl (x := .ref it) rfl (wpAny_bind (wpAny_nextOf_tuple_end (by simpa using hh) hi ht (by simpa using hx) fun h' x he' hx' => ?_)))
  obtain ⟨o, ho, hc⟩ := hx'
  exact wpAny_bind (wpAny_isInstance (T := "StopIteration") (b := true) ⟨o, ho, hc⟩ isSubtype_stop (wpAny_pure (hQ _ he')))
end
/-- enumerate over the tuple at a -/
def IteT (K : PySem.W.Frag) (a : Addr) : It :=
  ⟨fun i H => ∃ (xs : List V) (x : V), SqT K H a xs ∧ xs[i]? = some x, fun i H v H' => ∃ T x, v = .ref T ∧ H T = none ∧ H' = upd H T (.tup [.int (i : Nat), x]) ∧ ∀ xs, SqT K H a xs → xs[i]? = some x, fun i H => ∃ xs : List V, SqT K H a xs ∧ xs.length ≤ i⟩
theorem turn_enumT {P : Program} {w : World} {K : PySem.W.Frag} {elts : List Expr} {kk : Nat} {tpos : Pos} (a e it : Addr) :
    Turn P w K (.Tuple elts kk tpos) (IteT K a) [e, it] e (fun i h => (∃ old, IsEnum h e it ((i : Nat) : Int) old) ∧ h.IsTupleIter it a i ∧ e ≠ it ∧ a ≠ it ∧ a ≠ e) where
  mem := by simp
  obj := fun i h st b hb => by
    obtain ⟨⟨old, he⟩, ⟨o, ho, hc, hd⟩, _⟩ := st
    rcases (by simpa using hb : b = e ∨ b = it) with z | z
    · rw [z]; exact ⟨_, he, fun v q => nomatch q⟩
    · rw [z]; exact ⟨o, ho, fun v q => by rw [hd] at q; cases q⟩
  keep := fun i h h' st k => let ⟨⟨old, he⟩, hi, hne⟩ := st; ⟨⟨old, k e (by simp) _ he⟩, hi.at fun o q => k it (by simp) o q, hne⟩
  item := by
    intro X hP hw hK hc i pins s σ H E I hf st hg
    subst hP hw hK
    obtain ⟨⟨old, he⟩, hit, hne, hat, hae⟩ := st
    obtain ⟨xs, x, hq, hx⟩ := hg
    obtain ⟨its, rv, p, hz⟩ := I.tuple hq
    obtain ⟨u, hu, ru⟩ := rv.get hx
    have hel : e < s.heap.objs.size := Heap.lt_size he
    have hil : it < s.heap.objs.size := by obtain ⟨_, q, _⟩ := hit; exact Heap.lt_size q
    have hlt : i < its.toArray.size := by
      rw [List.size_toArray]
      exact (List.getElem?_eq_some_iff.mp hu).1
    refine wpAny_pyNext_enum_itemD (Draws.tuple (A := X.A.in1) (I.ok.hd hc) it a hat its.toArray) he ⟨hit, p⟩ hlt hne (by simp; exact ⟨hne, Ne.symm hae⟩) fun x' h' tk hP' ho st' hT hsz hk => ?_
    obtain ⟨hit', _⟩ := st'
    have ex' : x' = u := by
      have z : its.toArray[i]? = some x' := hP'
      rw [List.getElem?_toArray, hu] at z
      exact (Option.some.inj z).symm
    subst ex'
    refine ⟨_, rfl, wpAny_letOwnedTupleGo_enum (s := { s with heap := h', toks := tk + 1 }) ho fun h'' he' sb => ?_⟩
    have hT2 : h''.get? s.heap.objs.size = some { cls := .type "tuple", data := .seq #[.int i tk, x'] } := (sb.2 _ (Nat.ne_of_gt hel)).trans hT
    have new : ObjOk X.prog X.w (upd H s.heap.objs.size (.tup [.int (i : Nat), x])) h'' s.heap.objs.size (.tup [.int (i : Nat), x]) :=
      ⟨by show 2 ≤ sizeLine; decide, [.int i tk, x'], .cons ⟨_, rfl⟩ (.cons ru .nil), ⟨_, hT2, rfl, _, rfl⟩⟩
    have I1 : Inv X pins σ (upd H s.heap.objs.size (.tup [.int (i : Nat), x])) { s with heap := h'', toks := tk + 1 } :=
      I.turnedNew (ch := [e, it]) (fun b ob hb q => (sb.2 b (fun z => hb (by simp [z]))).trans (hk b ob (fun z => hb (by simp [z])) (fun z => hb (by simp [z])) q)) hf (Nat.le_refl _) new
    refine ⟨.ref s.heap.objs.size, _, I1, rfl, ⟨_, x, rfl, I.hok.fresh (Nat.le_refl _), rfl, fun ys hy => ?_⟩, ⟨⟨x', ?_⟩, hit'.at fun o q => (sb.2 it (Ne.symm hne)).trans q, hne, hat, hae⟩, fun b hb => ?_⟩
    · rw [I.tuple_inj hy hq]; exact hx
    · have e1 : ((i + 1 : Nat) : Int) = (i : Int) + 1 := by omega
      rw [e1]; exact he'
    · have hb' : b < s.heap.objs.size := by
        rcases (by simpa using hb : b = e ∨ b = it) with z | z
        · rw [z]; exact hel
        · rw [z]; exact hil
      rw [upd_ne (Nat.ne_of_lt hb')]
      exact (hf b hb).1
  done := by
    intro X hP hw hK hc i pins s σ H E I hf st hg
    subst hP hw hK
    obtain ⟨⟨old, he⟩, hit, hne, hat, hae⟩ := st
    obtain ⟨xs, hq, hx⟩ := hg
    obtain ⟨its, rv, p, hz⟩ := I.tuple hq
    obtain ⟨f0, f1, f2, f3, f4, f5⟩ := hf it (by simp)
    have hl := rv.length
    exact enum_endT (I.ok.hd hc) he hit p (by rw [List.size_toArray]; omega) fun h' eb => ⟨rfl, I.turned (t' := s.toks) (fun b o hb q => eb b o hb q) f0 f1 f3 f4 f5⟩
  self := fun A i s Q E st h => let ⟨⟨_, he⟩, _⟩ := st; wpAny_pyIter_enum he h
end L2
namespace F
open PySem PySem.Spec PyProof.Rows L2
/-! ### enumerate -/
def enumD (xs : List D) : List D := xs.mapIdx fun i x => D.tup [.int (i : Nat), x]
theorem enumD_get {xs : List D} {i : Nat} {d : D} (e : (enumD xs)[i]? = some d) : ∃ x, xs[i]? = some x ∧ d = .tup [.int (i : Nat), x] := by
  unfold enumD at e
  rw [List.getElem?_mapIdx] at e
  cases q : xs[i]? with
  | none => rw [q] at e; cases e
  | some x => rw [q] at e; exact ⟨x, rfl, (Option.some.inj e).symm⟩
theorem enumD_len (xs : List D) : (enumD xs).length = xs.length := by unfold enumD; simp
section
variable {K : PySem.W.Frag} {g : Gw} {H : Hp} {a : Addr} {vs : List V} {ds : List D}
theorem y_enumL (hF : g.F a = some (.lst vs)) (r : RepL K g.F g.θ vs ds) : Yields K (Ite K a) g H (enumD ds) := by
  refine ⟨fun g1 H1 i d S gr ok e => ?_, fun g1 H1 i S gr ok e => ⟨vs, SqL.of (ok.sub _ _ (gr.fm _ _ hF)), by rw [r.length]; rw [enumD_len] at e; exact e⟩⟩
  obtain ⟨x, e1, rfl⟩ := enumD_get e
  obtain ⟨v, ev, rv⟩ := r.get e1
  have hS : SqL K H1 a vs := SqL.of (ok.sub _ _ (gr.fm _ _ hF))
  refine ⟨⟨vs, v, hS, ev⟩, fun z H2 h => ?_⟩
  obtain ⟨T, x', rfl, hn, rfl, hx⟩ := h
  have q1 : v = x' := Option.some.inj (ev.symm.trans (hx _ hS))
  subst q1
  obtain ⟨ok2, gr2⟩ := ok.laid (o := .tup [.int (i : Nat), v]) hn
  exact ⟨_, gr2, ok2, .tup (SqT.of upd_same) (gr2.repL (.cons (.int _) (.cons (gr.rep rv) .nil)))⟩
theorem y_enumT (hF : SqT K g.F a vs) (r : RepL K g.F g.θ vs ds) : Yields K (IteT K a) g H (enumD ds) := by
  refine ⟨fun g1 H1 i d S gr ok e => ?_, fun g1 H1 i S gr ok e => ⟨vs, SqT.sub ok.sub (SqT.sub gr.fm hF), by rw [r.length]; rw [enumD_len] at e; exact e⟩⟩
  obtain ⟨x, e1, rfl⟩ := enumD_get e
  obtain ⟨v, ev, rv⟩ := r.get e1
  have hS : SqT K H1 a vs := SqT.sub ok.sub (SqT.sub gr.fm hF)
  refine ⟨⟨vs, v, hS, ev⟩, fun z H2 h => ?_⟩
  obtain ⟨T, x', rfl, hn, rfl, hx⟩ := h
  have q1 : v = x' := Option.some.inj (ev.symm.trans (hx _ hS))
  subst q1
  obtain ⟨ok2, gr2⟩ := ok.laid (o := .tup [.int (i : Nat), v]) hn
  exact ⟨_, gr2, ok2, .tup (SqT.of upd_same) (gr2.repL (.cons (.int _) (.cons (gr.rep rv) .nil)))⟩
end
def enumM : List D → M (List D)
  | [.lst xs] => .ret (enumD xs)
  | [.tup xs] => .ret (enumD xs)
  | _ => .bad
def iEnumM (m : Ev → M (List D)) : Ev → M (List D) := fun ρ => m ρ >>= enumM
section
variable {X : Cx} {E : XK} {a : Expr} {m : Ev → M (List D)} {p pos tpos : Pos} {elts : List Expr} {kk : Nat}
theorem ri_enum (hg : Gl X "enumerate") (hm : X.mg "enumerate" = none) (ha : RA X E [a] m) (hs : starEach [a] X.env = [(false, eval a X.env)] := by rfl) : RI X E (.Tuple elts kk tpos) (.Call (.Name "enumerate" p) [a] [] pos) (iEnumM m) := by
  refine ⟨fun pins s σ H R I ⟨g, S, ρ, L, ok, en, h⟩ => ?_⟩
  have q : tA X.K X.mg E m σ H (fun xs H1 => ∃ g1 S1 ds, Grow g H g1 H1 ∧ StOk X.K S1 g1 H1 ∧ RepL X.K g1.F g1.θ xs ds ∧ wp (enumM ds) S1 (IP X.K g H R) (XP X.K X.mg g H E)) :=
    ⟨g, S, ρ, L, ok, en, wp_mono (wp_bind.mp h) (fun ds S1 h1 g1 H1 vs gr ok1 r => ⟨g1, S1, ds, gr, ok1, r, h1⟩) fun _ _ z => z⟩
  refine Call_ (ld_blt I hg hm boot_enumerate (PyProof.Rows.callWith_type1 (thn (ha.run pos pins s σ H _ I q) fun us s1 ⟨vs, H1, I1, r1, g1, S1, ds, gr, ok1, rp, h1⟩ => ?_) hs rfl))
  match ds, h1 with
  | [.lst xs], h1 =>
    obtain ⟨v, rfl, rv⟩ := repL_one rp
    obtain ⟨l, ws, rfl, hF, rl⟩ := rep_refL rv
    obtain ⟨u, rfl, r2⟩ := vals1 r1
    cases r2
    obtain ⟨its, rv', p', hz⟩ := I1.list (SqL.of (K := X.K) (ok1.sub _ _ hF))
    refine call_enumerate_list p'.isList fun h' he hit hsz hk => wpAny_pyIter_enum he ?_
    have I2 : Inv X pins σ H1 { s1 with heap := h' } := I1.kept (t' := s1.toks) hk
    refine ⟨s1.heap.objs.size + 1, [s1.heap.objs.size + 1, s1.heap.objs.size], _, _, H1, rfl, I2, turn_enum l (s1.heap.objs.size + 1) s1.heap.objs.size, ⟨⟨.none, he⟩, hit, Nat.succ_ne_self _⟩, fun b hb => ?_, h1 g1 H1 _ gr ok1 (y_enumL hF rl)⟩
    have hle : s1.heap.objs.size ≤ b := by
      rcases (by simpa using hb : b = s1.heap.objs.size + 1 ∨ b = s1.heap.objs.size) with z | z
      · rw [z]; exact Nat.le_add_right _ _
      · rw [z]; exact Nat.le_refl _
    exact I1.fpOk hle (I1.hok.fresh hle)
  | [.tup xs], h1 =>
    obtain ⟨v, rfl, rv⟩ := repL_one rp
    obtain ⟨l, ws, rfl, hF, rl⟩ := rep_ref rv
    obtain ⟨u, rfl, r2⟩ := vals1 r1
    cases r2
    obtain ⟨its, rv', p', hz⟩ := I1.tuple (SqT.sub ok1.sub hF)
    have hl : l < s1.heap.objs.size := by obtain ⟨o, e, _⟩ := p'; exact Heap.lt_size e
    refine call_enumT p' fun h' he hit hk => wpAny_pyIter_enum he ?_
    have I2 : Inv X pins σ H1 { s1 with heap := h' } := I1.kept (t' := s1.toks) hk
    refine ⟨s1.heap.objs.size + 1, [s1.heap.objs.size + 1, s1.heap.objs.size], _, _, H1, rfl, I2, turn_enumT l (s1.heap.objs.size + 1) s1.heap.objs.size, ⟨⟨.none, he⟩, hit, Nat.succ_ne_self _, Nat.ne_of_lt hl, Nat.ne_of_lt (Nat.lt_succ_of_lt hl)⟩, fun b hb => ?_, h1 g1 H1 _ gr ok1 (y_enumT hF rl)⟩
    have hle : s1.heap.objs.size ≤ b := by
      rcases (by simpa using hb : b = s1.heap.objs.size + 1 ∨ b = s1.heap.objs.size) with z | z
      · rw [z]; exact Nat.le_add_right _ _
      · rw [z]; exact Nat.le_refl _
    exact I1.fpOk hle (I1.hok.fresh hle)
  | [], h1 => exact h1.elim
  | _ :: _ :: _, h1 => exact absurd h1 (by unfold enumM; split <;> simp_all [wp])
  | [.non], h1 | [.bl _], h1 | [.int _], h1 | [.str _], h1 | [.dic _], h1 | [.obj _], h1 | [.scr _], h1 => exact h1.elim
/-! ### what is never reached -/
def sBad : SM := fun _ => .bad
def eBad : Ev → M D := fun _ => .bad
theorem rs_bad {g0 : Gw} {H0 : Hp} {s : Stmt} : RS X g0 H0 E s sBad := ⟨fun pins s σ H W I ⟨g, S, ρ, gr, ok, en, h⟩ => (h : False).elim⟩
theorem re_bad {e : Expr} : RE X E e eBad := ⟨fun pins s σ H Q I ⟨g, S, ρ, L, ok, en, h⟩ => (h : False).elim⟩
end
end F
namespace F
open PySem PySem.Spec PyProof.Rows L2
section
variable {X : Cx} {E : XK} {g0 : Gw} {H0 : Hp} {ma : Ev → M D} {mas : Ev → M (List D)} {a e : Expr} {es : List Expr} {p pos : Pos}
/-! ### starred arguments -/
def seqD : D → Option (List D)
  | .tup xs => some xs
  | .lst xs => some xs
  | _ => none
def aStar (ma : Ev → M D) (mas : Ev → M (List D)) : Ev → M (List D) := fun ρ => ma ρ >>= fun d => match seqD d with
  | some xs => mas ρ >>= fun ds => .ret (xs ++ ds)
  | none => .bad
theorem ra_star (ha : RE X E e ma) (hr : RA X E es mas) (hs : starEach (.Starred e p :: es) X.env = (true, eval e X.env) :: starEach es X.env := by rfl) : RA X E (.Starred e p :: es) (aStar ma mas) := by
  refine pa_weak (StX.pa_star ha hr hs) fun σ H Q ⟨g, S, ρ, L, ok, en, h⟩ => ?_
  refine ⟨g, S, ρ, L, ok, en, wp_mono (wp_bind.mp h) (fun d S1 h1 g1 H1 v gr1 ok1 r => ?_) fun _ _ z => z⟩
  have go : ∀ q vs xs, v = .ref q → RepL X.K g1.F g1.θ vs xs → (SqT X.K H1 q vs ∨ SqL X.K H1 q vs) → wp (mas ρ >>= fun ds => M.ret (xs ++ ds)) S1 (LP X.K g H Q) (XP X.K X.mg g H E) → ∃ p xs, v = V.ref p ∧ (SqT X.K H1 p xs ∨ SqL X.K H1 p xs) ∧ tA X.K X.mg E mas σ H1 fun ys H2 => Q (xs ++ ys) H2 := by
    intro q vs xs ev rl sq h1
    refine ⟨q, vs, ev, sq, g1, S1, ρ, L, ok1, en.grow gr1, wp_mono (wp_bind.mp h1) (fun ds S2 h2 g2 H2 ws gr2 ok2 rs => ?_) fun _ _ z => z.grow gr1⟩
    exact h2 g2 H2 _ (gr1.trans gr2) ok2 ((gr2.repL rl).append rs)
  cases d with
  | lst xs => obtain ⟨q, vs, rfl, sq, rl⟩ := rep_refL r; exact go q vs xs rfl rl (.inr (SqL.of (ok1.sub _ _ sq))) h1
  | tup xs => obtain ⟨q, vs, rfl, sq, rl⟩ := rep_ref r; exact go q vs xs rfl rl (.inl (SqT.sub ok1.sub sq)) h1
  | _ => exact h1.elim
/-! ### name -= e -/
def subA : D → D → M D := fun d e => match d, e with | .int i, .int j => .ret (.int (i - j)) | _, _ => .bad
theorem rs_augSub (i : Nat) {x : Str} {px : Pos} (hN : X.N.Nodup) (ha : RE X E a ma) (hi : X.N[i]? = some x := by rfl) (hx : Loc X.env.scope x := by first | exact Or.inl rfl | exact Or.inr rfl)
    (hf : X.fn x = true ∨ X.env.scope.names.lookup x = some .local := by first | exact .inl rfl | exact .inr rfl) : RS X g0 H0 E (.AugAssign (.Name x px) .Sub a pos) (sAug i subA ma) := by
  refine ps_weak (ps_aug hN hi hx ha ip_sub hf) fun W σ H ⟨g, S, ρ, gr, ok, en, h⟩ => ?_
  unfold sAug at h
  split at h
  · rename_i d e
    obtain ⟨sv, h1, v, rfl, r⟩ := slot_of en e
    refine ⟨v, h1, g, S, ρ, _, ok, en, wp_mono (wp_bind.mp h) (fun d2 S1 h2 g1 H1 v2 gr1 ok1 r2 => ?_) fun _ _ z => z.grow gr⟩
    cases d with
    | int i1 =>
      cases d2 with
      | int i2 =>
        cases r; cases r2
        exact ⟨i1, i2, rfl, rfl, h2 g1 H1 _ (gr.trans gr1) gr1.ext ok1 ((en.grow gr1).setv i (.int _))⟩
      | _ => exact h2.elim
    | _ => cases d2 <;> exact h2.elim
  · exact h.elim
/-! ### name += e -/
def addA : D → D → M D := fun d e => match d, e with | .int i, .int j => .ret (.int (i + j)) | _, _ => .bad
theorem rs_augAddA (i : Nat) {x : Str} {px : Pos} (hN : X.N.Nodup) (ha : RE X E a ma) (hi : X.N[i]? = some x := by rfl) (hx : Loc X.env.scope x := by first | exact Or.inl rfl | exact Or.inr rfl)
    (hf : X.fn x = true ∨ X.env.scope.names.lookup x = some .local := by first | exact .inl rfl | exact .inr rfl) : RS X g0 H0 E (.AugAssign (.Name x px) .Add a pos) (sAug i addA ma) :=
  rs_augAdd i hN ha hi hx hf
/-! ### len of one's own list -/
def eLenO (i : Nat) : Ev → M D := fun ρ => match ρ[i]? with
  | some (.own ds) => .ret (.int ds.length)
  | _ => .bad
theorem re_lenO (i : Nat) {x : Str} {px p1 : Pos} (hg : Gl X "len") (hm : X.mg "len" = none) (hN : X.N[i]? = some x := by rfl) (hv : Vis X.env.scope x := by first | exact Or.inl rfl | exact Or.inr (Or.inl rfl) | exact Or.inr (Or.inr rfl)) (hd : (x == ("__debug__" : Str)) = false := by decide)
    (hcd : (x == ("__classdict__" : Str)) = false := by decide) (he : starEach [.Name x px] X.env = (false, eval (.Name x px) X.env) :: starEach [] X.env := by rfl) : RE X E (.Call (.Name "len" p1) [.Name x px] [] pos) (eLenO i) := by
  refine pe_weak (pe_callB call_len hg hm (by decide +kernel) (pa_cons (pe_var hN hv hd hcd) pa_nil he) (he := he)) fun σ H Q ⟨g, S, ρ, L, ok, en, h⟩ => ?_
  unfold eLenO at h
  split at h
  · rename_i ds e
    obtain ⟨sv, h1, l, vs, rfl, hl, r, hL, hF, hθ⟩ := slot_of en e
    exact ⟨_, h1, _, ds.length, rfl, .inl ⟨vs, SqL.of hl, r.length.symm⟩, h g H _ .refl ok (.int _)⟩
  · exact h.elim
end
end F
namespace F
open PySem PySem.Spec PyProof.Rows L2
/-! ## what slots get: values, lists and dicts of one's own -/
def SlNew (K : PySem.W.Frag) (H : Hp) (g' : Gw) (H' : Hp) : V → Sl → Prop
  | v, .v d => Rep K g'.F g'.θ v d
  | v, .own ds => ∃ a vs, v = .ref a ∧ H a = none ∧ H' a = some (.lst vs) ∧ g'.F a = none ∧ a ∉ g'.θ ∧ RepL K g'.F g'.θ vs ds
  | v, .ownd ds => ∃ a vs, v = .ref a ∧ H a = none ∧ H' a = some (.dK vs) ∧ g'.F a = none ∧ a ∉ g'.θ ∧ RepK K g'.F g'.θ vs ds
  | _, .no => False
inductive SlsNew (K : PySem.W.Frag) (H : Hp) (g' : Gw) (H' : Hp) : List V → List Sl → Prop
  | nil : SlsNew K H g' H' [] []
  | cons {v : V} {sl : Sl} {vs : List V} {sls : List Sl} : SlNew K H g' H' v sl → (∀ (j : Nat) z, sl.isOwn = true → vs[j]? = some v → sls[j]? = some z → z.isOwn = true → False) → SlsNew K H g' H' vs sls → SlsNew K H g' H' (v :: vs) (sl :: sls)
section
variable {K : PySem.W.Frag} {L : Addr → Prop} {S : List OS} {g g1 g2 : Gw} {H H1 H2 : Hp} {σ : L2.St} {ρ : Ev}
theorem SlNew.grow {v : V} {sl : Sl} (h : SlNew K H g1 H1 v sl) (gr : Grow g1 H1 g2 H2) : SlNew K H g2 H2 v sl := by
  cases sl with
  | v d => exact gr.rep h
  | own ds =>
    obtain ⟨a, vs, e, n, h, hF, hθ, r⟩ := h
    have o := (show OwnAt g1 (fun _ => True) a from ⟨trivial, hF, hθ⟩).grow h gr
    exact ⟨a, vs, e, n, gr.keep _ _ h hθ, o.2.1, o.2.2, gr.repL r⟩
  | ownd ds =>
    obtain ⟨a, vs, e, n, h, hF, hθ, r⟩ := h
    have o := (show OwnAt g1 (fun _ => True) a from ⟨trivial, hF, hθ⟩).grow h gr
    exact ⟨a, vs, e, n, gr.keep _ _ h hθ, o.2.1, o.2.2, RepK.grow gr r⟩
  | no => exact h
/-- an own thing's address: there now, not there ahead -/
theorem SlNew.own {v : V} {sl : Sl} (h : SlNew K H g1 H1 v sl) (ho : sl.isOwn = true) : ∃ a o, v = .ref a ∧ H a = none ∧ H1 a = some o := by
  cases sl with
  | own ds => obtain ⟨a, vs, e, n, h, _⟩ := h; exact ⟨a, _, e, n, h⟩
  | ownd ds => obtain ⟨a, vs, e, n, h, _⟩ := h; exact ⟨a, _, e, n, h⟩
  | _ => cases ho
theorem SlNew.back {v : V} {sl : Sl} (h : SlNew K H1 g2 H2 v sl) (gr : Grow g H g1 H1) : SlNew K H g2 H2 v sl := by
  cases sl with
  | v d => exact h
  | own ds => obtain ⟨a, vs, e, n, h⟩ := h; exact ⟨a, vs, e, gr.dom _ n, h⟩
  | ownd ds => obtain ⟨a, vs, e, n, h⟩ := h; exact ⟨a, vs, e, gr.dom _ n, h⟩
  | no => exact h
theorem SlsNew.get {vs : List V} {sls : List Sl} (h : SlsNew K H g1 H1 vs sls) {j : Nat} {v : V} {z : Sl} (e1 : vs[j]? = some v) (e2 : sls[j]? = some z) : SlNew K H g1 H1 v z := by
  induction h generalizing j with
  | nil => simp at e1
  | cons h0 _ _ ih =>
    cases j with
    | zero => simp at e1 e2; subst e1 e2; exact h0
    | succ j => exact ih (by simpa using e1) (by simpa using e2)
theorem SlsNew.back {vs : List V} {sls : List Sl} (h : SlsNew K H1 g2 H2 vs sls) (gr : Grow g H g1 H1) : SlsNew K H g2 H2 vs sls := by
  induction h with
  | nil => exact .nil
  | cons h0 h1 _ ih => exact .cons (h0.back gr) h1 ih
/-- one more ahead of those made later -/
theorem SlsNew.push {v : V} {sl : Sl} {vs : List V} {sls : List Sl} (h : SlNew K H g1 H1 v sl) (gr1 : Grow g H g1 H1) (gr2 : Grow g1 H1 g2 H2) (hs : SlsNew K H1 g2 H2 vs sls) : SlsNew K H g2 H2 (v :: vs) (sl :: sls) := by
  refine .cons (h.grow gr2) (fun j z ho e1 e2 hz => ?_) (hs.back gr1)
  obtain ⟨a, o, ea, _, ha⟩ := h.own ho
  obtain ⟨b, o2, eb, hb, _⟩ := (hs.get e1 e2).own hz
  rw [ea] at eb
  cases eb
  rw [ha] at hb; cases hb
theorem SlNew.slOk {v : V} {sl : Sl} (h : SlNew K H g1 H1 v sl) (hL : ∀ a, H a = none → L a) : SlOk K L g1 H1 (some v) sl := by
  cases sl with
  | v d => exact ⟨v, rfl, h⟩
  | own ds => obtain ⟨a, vs, e, n, h, hF, hθ, r⟩ := h; exact ⟨a, vs, by rw [e], h, r, hL _ n, hF, hθ⟩
  | ownd ds => obtain ⟨a, vs, e, n, h, hF, hθ, r⟩ := h; exact ⟨a, vs, by rw [e], h, r, hL _ n, hF, hθ⟩
  | no => exact h.elim
/-- any slot gets anything -/
theorem EnvOk.setn (en : EnvOk K L g H σ ρ) (i : Nat) {v : V} {sl : Sl} (h : SlOk K L g H (some v) sl) (fr : sl.isOwn = true → ∀ (m : Nat) z, m ≠ i → σ[m]? = some (some v) → ρ[m]? = some z → z.isOwn = true → False) : EnvOk K L g H (σ.set i (some v)) (ρ.set i sl) := by
  refine ⟨by simp [en.len], fun j sv s2 h1 h2 => ?_, fun j k b x y hjk h1 h2 h3 h4 h5 h6 => ?_⟩
  · rcases own_key h2 with ⟨rfl, rfl⟩ | ⟨hj, h2⟩
    · have hl : j < σ.length := by simpa using (List.getElem?_eq_some_iff.mp h1).1
      rw [List.getElem?_set_self hl] at h1
      cases h1
      exact h
    · rw [List.getElem?_set_ne (Ne.symm hj)] at h1
      exact en.ok j sv s2 h1 h2
  · rcases own_key h3 with ⟨rfl, rfl⟩ | ⟨hj, h3'⟩
    · have hl : j < σ.length := by simpa using (List.getElem?_eq_some_iff.mp h1).1
      rw [List.getElem?_set_self hl] at h1
      rcases own_key h4 with ⟨rfl, _⟩ | ⟨hk, h4'⟩
      · exact hjk rfl
      · rw [List.getElem?_set_ne (Ne.symm hk)] at h2
        exact fr h5 k y hk (by rw [h2]; exact h1.symm ▸ rfl) h4' h6
    · rw [List.getElem?_set_ne (Ne.symm hj)] at h1
      rcases own_key h4 with ⟨rfl, rfl⟩ | ⟨hk, h4'⟩
      · have hl : k < σ.length := by simpa using (List.getElem?_eq_some_iff.mp h2).1
        rw [List.getElem?_set_self hl] at h2
        exact fr h6 j x hj (by rw [h1]; exact h2.symm ▸ rfl) h3' h5
      · rw [List.getElem?_set_ne (Ne.symm hk)] at h2
        exact en.dis j k b x y hjk h1 h2 h3' h4' h5 h6
/-- an own thing that was not there ahead is no slot's own -/
theorem EnvOk.fresh (en : EnvOk K L g H σ ρ) {a : Addr} (hn : H a = none) (m : Nat) (z : Sl) (h1 : σ[m]? = some (some (.ref a))) (h2 : ρ[m]? = some z) (h3 : z.isOwn = true) : False := by
  have q := en.ok m _ z h1 h2
  cases z with
  | own ds' => obtain ⟨b, vs', e, h, _⟩ := q; cases e; rw [hn] at h; cases h
  | ownd ds' => obtain ⟨b, vs', e, h, _⟩ := q; cases e; rw [hn] at h; cases h
  | _ => cases h3
end
end F
namespace F
open PySem PySem.Spec PyProof.Rows L2
section
variable (K : PySem.W.Frag) (mg : Str → Option Value)
def SLP (g : Gw) (H : Hp) (Q : List V → Hp → Prop) : List Sl → List OS → Prop := fun ds S' => ∀ g' H' vs, Grow g H g' H' → StOk K S' g' H' → SlsNew K H g' H' vs ds → Q vs H'
def tL (E : XK) (m : Ev → M (List Sl)) : TA := fun σ H Q => ∃ g S ρ L, StOk K S g H ∧ EnvOk K L g H σ ρ ∧ wp (m ρ) S (SLP K g H Q) (XP K mg g H E)
end
section
variable {X : Cx} {E : XK} {g0 : Gw} {H0 : Hp} {ma : Ev → M D} {mn : Ev → M (List D)} {ml : Ev → M (List Sl)} {a b c e : Expr} {es : List Expr} {p pos : Pos}
abbrev RL (X : Cx) (E : XK) (e : List Expr) (m : Ev → M (List Sl)) : Prop := PA X e (tL X.K X.mg E m)
def lNil : Ev → M (List Sl) := fun _ => .ret []
def lV (ma : Ev → M D) (ml : Ev → M (List Sl)) : Ev → M (List Sl) := fun ρ => ma ρ >>= fun d => ml ρ >>= fun ds => .ret (.v d :: ds)
def lO (mn : Ev → M (List D)) (ml : Ev → M (List Sl)) : Ev → M (List Sl) := fun ρ => mn ρ >>= fun d => ml ρ >>= fun ds => .ret (.own d :: ds)
def lD0 (ml : Ev → M (List Sl)) : Ev → M (List Sl) := fun ρ => ml ρ >>= fun ds => .ret (.ownd [] :: ds)
theorem rl_nil : RL X E [] lNil := pa_weak pa_nil fun σ H Q ⟨g, S, ρ, L, ok, en, h⟩ => h g H [] .refl ok .nil
theorem rl_v (ha : RE X E e ma) (hr : RL X E es ml) (hs : starEach (e :: es) X.env = (false, eval e X.env) :: starEach es X.env := by rfl) : RL X E (e :: es) (lV ma ml) := by
  refine pa_weak (pa_cons ha hr hs) fun σ H Q ⟨g, S, ρ, L, ok, en, h⟩ => ?_
  refine ⟨g, S, ρ, L, ok, en, wp_mono (wp_bind.mp h) (fun d S1 h1 g1 H1 v gr1 ok1 r => ?_) fun _ _ z => z⟩
  refine ⟨g1, S1, ρ, L, ok1, en.grow gr1, wp_mono (wp_bind.mp h1) (fun ds S2 h2 g2 H2 vs gr2 ok2 rs => ?_) fun _ _ z => z.grow gr1⟩
  exact h2 g2 H2 _ (gr1.trans gr2) ok2 (.push (g := g) (sl := .v d) r gr1 gr2 rs)
theorem rl_own (ha : RN X E e mn) (hr : RL X E es ml) (hs : starEach (e :: es) X.env = (false, eval e X.env) :: starEach es X.env := by rfl) : RL X E (e :: es) (lO mn ml) := by
  refine pa_weak (pa_cons ha hr hs) fun σ H Q ⟨g, S, ρ, L, ok, en, h⟩ => ?_
  refine ⟨g, S, ρ, L, ok, en, wp_mono (wp_bind.mp h) (fun d S1 h1 g1 H1 q ws gr1 ok1 n1 n2 n3 n4 r => ?_) fun _ _ z => z⟩
  refine ⟨g1, S1, ρ, L, ok1, en.grow gr1, wp_mono (wp_bind.mp h1) (fun ds S2 h2 g2 H2 vs gr2 ok2 rs => ?_) fun _ _ z => z.grow gr1⟩
  exact h2 g2 H2 _ (gr1.trans gr2) ok2 (.push (g := g) (sl := .own d) ⟨q, ws, rfl, n1, n2, n3, n4, r⟩ gr1 gr2 rs)
theorem rl_dic0 {dp : Pos} (hr : RL X E es ml) (hs : starEach (.Dict [] [] dp :: es) X.env = (false, eval (.Dict [] [] dp) X.env) :: starEach es X.env := by rfl) : RL X E (.Dict [] [] dp :: es) (lD0 ml) := by
  refine pa_weak (pa_cons pe_dnewK hr hs) fun σ H Q ⟨g, S, ρ, L, ok, en, h⟩ => ?_
  intro q hq
  obtain ⟨ok1, gr1, hF, hθ⟩ := ok.made (o := .dK []) hq
  refine ⟨g, S, ρ, L, ok1, en.grow gr1, wp_mono (wp_bind.mp h) (fun ds S2 h2 g2 H2 vs gr2 ok2 rs => ?_) fun _ _ z => z.grow gr1⟩
  exact h2 g2 H2 _ (gr1.trans gr2) ok2 (.push (g := g) (sl := .ownd []) ⟨q, [], rfl, hq, upd_same, hF, hθ, .nil⟩ gr1 gr2 rs)
theorem SlsNew.inv {K : PySem.W.Frag} {g1 : Gw} {H H1 : Hp} {vs : List V} {sl : Sl} {sls : List Sl} (h : SlsNew K H g1 H1 vs (sl :: sls)) : ∃ v ws, vs = v :: ws ∧ SlNew K H g1 H1 v sl ∧ (∀ (j : Nat) z, sl.isOwn = true → ws[j]? = some v → sls[j]? = some z → z.isOwn = true → False) ∧ SlsNew K H g1 H1 ws sls := by
  cases h with | cons n d r => exact ⟨_, _, rfl, n, d, r⟩
theorem SlsNew.inv0 {K : PySem.W.Frag} {g1 : Gw} {H H1 : Hp} {vs : List V} (h : SlsNew K H g1 H1 vs []) : vs = [] := by
  cases h; rfl
/-- the slots are set -/
theorem sls_two {K : PySem.W.Frag} {g g1 : Gw} {H H1 : Hp} {L : Addr → Prop} {σ : L2.St} {ρ : Ev} {i j : Nat} {s1 s2 : Sl} {vs : List V} (en : EnvOk K L g H σ ρ) (gr : Grow g H g1 H1) (hL : ∀ a, H a = none → L a) (hij : i ≠ j) (h : SlsNew K H g1 H1 vs [s1, s2]) :
    ∃ v w, vs = [v, w] ∧ EnvOk K L g1 H1 ((σ.set i (some v)).set j (some w)) ((ρ.set i s1).set j s2) := by
  obtain ⟨v, ws, rfl, n1, d1, h⟩ := h.inv
  obtain ⟨w, ws, rfl, n2, d2, h⟩ := h.inv
  obtain rfl := h.inv0
  · refine ⟨v, w, rfl, EnvOk.setn (EnvOk.setn (en.grow gr) i (n1.slOk hL) fun ho m z hm h1 h2 h3 => ?_) j (n2.slOk hL) fun ho m z hm h1 h2 h3 => ?_⟩
    · obtain ⟨q, o, rfl, hq, _⟩ := n1.own ho
      exact en.fresh hq m z h1 h2 h3
    · obtain ⟨q, o, rfl, hq, _⟩ := n2.own ho
      rcases own_key h2 with ⟨rfl, rfl⟩ | ⟨hi, h2⟩
      · have hl : m < σ.length := by simpa using (List.getElem?_eq_some_iff.mp h1).1
        rw [List.getElem?_set_self hl] at h1
        cases h1
        exact d1 0 s2 h3 rfl rfl ho
      · rw [List.getElem?_set_ne (Ne.symm hi)] at h1
        exact en.fresh hq m z h1 h2 h3
theorem sls_three {K : PySem.W.Frag} {g g1 : Gw} {H H1 : Hp} {L : Addr → Prop} {σ : L2.St} {ρ : Ev} {i j l : Nat} {s1 s2 s3 : Sl} {vs : List V} (en : EnvOk K L g H σ ρ) (gr : Grow g H g1 H1) (hL : ∀ a, H a = none → L a) (hij : i ≠ j) (hil : i ≠ l) (hjl : j ≠ l) (h : SlsNew K H g1 H1 vs [s1, s2, s3]) :
    ∃ u v w, vs = [u, v, w] ∧ EnvOk K L g1 H1 (((σ.set i (some u)).set j (some v)).set l (some w)) (((ρ.set i s1).set j s2).set l s3) := by
  obtain ⟨u, ws, rfl, n1, d1, h⟩ := h.inv
  obtain ⟨v, ws, rfl, n2, d2, h⟩ := h.inv
  obtain ⟨w, ws, rfl, n3, d3, h⟩ := h.inv
  obtain rfl := h.inv0
  · have step1 : EnvOk K L g1 H1 (σ.set i (some u)) (ρ.set i s1) := EnvOk.setn (en.grow gr) i (n1.slOk hL) fun ho m z hm h1 h2 h3 => by
      obtain ⟨q, o, rfl, hq, _⟩ := n1.own ho
      exact en.fresh hq m z h1 h2 h3
    have c2 : ∀ (q : Addr), v = .ref q → H q = none → s2.isOwn = true → ∀ (m : Nat) z, (σ.set i (some u))[m]? = some (some (.ref q)) → (ρ.set i s1)[m]? = some z → z.isOwn = true → False := by
      rintro q rfl hq ho m z h1 h2 h3
      rcases own_key h2 with ⟨rfl, rfl⟩ | ⟨hi, h2⟩
      · have hl : m < σ.length := by simpa using (List.getElem?_eq_some_iff.mp h1).1
        rw [List.getElem?_set_self hl] at h1
        cases h1
        exact d1 0 s2 h3 rfl rfl ho
      · rw [List.getElem?_set_ne (Ne.symm hi)] at h1
        exact en.fresh hq m z h1 h2 h3
    have step2 : EnvOk K L g1 H1 ((σ.set i (some u)).set j (some v)) ((ρ.set i s1).set j s2) := EnvOk.setn step1 j (n2.slOk hL) fun ho m z hm h1 h2 h3 => by
      obtain ⟨q, o, e, hq, _⟩ := n2.own ho
      exact c2 q e hq ho m z (e ▸ h1) h2 h3
    refine ⟨u, v, w, rfl, EnvOk.setn step2 l (n3.slOk hL) fun ho m z hm h1 h2 h3 => ?_⟩
    obtain ⟨q, o, rfl, hq, _⟩ := n3.own ho
    rcases own_key h2 with ⟨rfl, rfl⟩ | ⟨hj, h2⟩
    · have hl : m < (σ.set i (some u)).length := by simpa using (List.getElem?_eq_some_iff.mp h1).1
      rw [List.getElem?_set_self hl] at h1
      cases h1
      exact d2 0 s3 h3 rfl rfl ho
    · rw [List.getElem?_set_ne (Ne.symm hj)] at h1
      rcases own_key h2 with ⟨rfl, rfl⟩ | ⟨hi, h2⟩
      · have hl : m < σ.length := by simpa using (List.getElem?_eq_some_iff.mp h1).1
        rw [List.getElem?_set_self hl] at h1
        cases h1
        exact d1 1 s3 h3 rfl rfl ho
      · rw [List.getElem?_set_ne (Ne.symm hi)] at h1
        exact en.fresh hq m z h1 h2 h3
def sPar2 (i j : Nat) (ml : Ev → M (List Sl)) : SM := fun ρ => ml ρ >>= fun ds => match ds with
  | [s1, s2] => .ret (.nx ((ρ.set i s1).set j s2))
  | _ => .bad
def sPar3 (i j l : Nat) (ml : Ev → M (List Sl)) : SM := fun ρ => ml ρ >>= fun ds => match ds with
  | [s1, s2, s3] => .ret (.nx (((ρ.set i s1).set j s2).set l s3))
  | _ => .bad
variable {x y z : Str} {px py pz pt : Pos} {kt k2 : Nat} {pt2 : Pos}
theorem rs_par2 (i j : Nat) (hc : X.calm = true) (hN : X.N.Nodup) (ha : RL X E [a, b] ml) (hi : X.N[i]? = some x := by rfl) (hj : X.N[j]? = some y := by rfl) (hij : i ≠ j := by decide)
    (hx : X.env.scope.names.lookup x = some .local := by rfl) (hy : X.env.scope.names.lookup y = some .local := by rfl)
    (hw : swappedStores [.Tuple [.Name x px, .Name y py] kt pt] (.Tuple [a, b] k2 pt2) X.env = pure (some [x, y]) := by rfl)
    (hs : swapsWithSole [.Tuple [.Name x px, .Name y py] kt pt] (.Tuple [a, b] k2 pt2) pos.line X.env = pure false := by rfl) :
    RS X g0 H0 E (.Assign [.Tuple [.Name x px, .Name y py] kt pt] (.Tuple [a, b] k2 pt2) pos) (sPar2 i j ml) := by
  refine ps_weak (ps_par hc hN hi hj hij hx hy ha hw hs) fun W σ H ⟨g, S, ρ, gr, ok, en, h⟩ => ⟨g, S, ρ, _, ok, en, ?_⟩
  refine wp_mono (wp_bind.mp h) (fun ds S1 h1 g1 H1 vs gr1 ok1 r => ?_) fun _ _ z => z.grow gr
  match ds, h1, r with
  | [s1, s2], h1, r =>
    obtain ⟨v, w, rfl, en2⟩ := sls_two (i := i) (j := j) en gr1 (fun a e => gr.dom a e) hij r
    exact ⟨v, w, rfl, h1 g1 H1 _ (gr.trans gr1) gr1.ext ok1 en2⟩
  | [], h1, _ => exact h1.elim
  | [_], h1, _ => exact h1.elim
  | _ :: _ :: _ :: _, h1, _ => exact h1.elim
theorem rs_par3 (i j l : Nat) (hc : X.calm = true) (hN : X.N.Nodup) (ha : RL X E [a, b, c] ml) (hi : X.N[i]? = some x := by rfl) (hj : X.N[j]? = some y := by rfl) (hl : X.N[l]? = some z := by rfl) (hij : i ≠ j := by decide) (hil : i ≠ l := by decide) (hjl : j ≠ l := by decide)
    (hx : X.env.scope.names.lookup x = some .local := by rfl) (hy : X.env.scope.names.lookup y = some .local := by rfl) (hz : X.env.scope.names.lookup z = some .local := by rfl)
    (hw : swappedStores [.Tuple [.Name x px, .Name y py, .Name z pz] kt pt] (.Tuple [a, b, c] k2 pt2) X.env = pure (some [x, y, z]) := by rfl)
    (hs : swapsWithSole [.Tuple [.Name x px, .Name y py, .Name z pz] kt pt] (.Tuple [a, b, c] k2 pt2) pos.line X.env = pure false := by rfl) :
    RS X g0 H0 E (.Assign [.Tuple [.Name x px, .Name y py, .Name z pz] kt pt] (.Tuple [a, b, c] k2 pt2) pos) (sPar3 i j l ml) := by
  refine ps_weak (ps_par3 hc hN hi hj hl hij hil hjl hx hy hz ha hw hs) fun W σ H ⟨g, S, ρ, gr, ok, en, h⟩ => ⟨g, S, ρ, _, ok, en, ?_⟩
  refine wp_mono (wp_bind.mp h) (fun ds S1 h1 g1 H1 vs gr1 ok1 r => ?_) fun _ _ z => z.grow gr
  match ds, h1, r with
  | [s1, s2, s3], h1, r =>
    obtain ⟨u, v, w, rfl, en2⟩ := sls_three (i := i) (j := j) (l := l) en gr1 (fun a e => gr.dom a e) hij hil hjl r
    exact ⟨u, v, w, rfl, h1 g1 H1 _ (gr.trans gr1) gr1.ext ok1 en2⟩
  | [], h1, _ => exact h1.elim
  | [_], h1, _ => exact h1.elim
  | [_, _], h1, _ => exact h1.elim
  | _ :: _ :: _ :: _ :: _, h1, _ => exact h1.elim
end
end F
namespace F
open PySem PySem.Spec PyProof.Rows L2
/-! ## dicts of one's own -/
def keyD : D → Option Key
  | .int i => some (.inl i)
  | .str x => some (.inr x)
  | _ => none
def keyIsD (d : D) (k : Key) : Bool := match d, k with
  | .int i, .inl j => decide (i = j)
  | .str x, .inr y => decide (x = y)
  | _, _ => false
def putDD (kvs : List (D × D)) (k : Key) (v : D) : List (D × D) := if (kvs.any fun kv => keyIsD kv.1 k) = true then kvs.map (fun kv => if keyIsD kv.1 k = true then (kv.1, v) else kv) else kvs ++ [(kD k, v)]
theorem keyIs_kD (j k : Key) : keyIsD (kD j) k = decide (j = k) := by
  cases j <;> cases k <;> simp [keyIsD, kD]
section
variable {K : PySem.W.Frag} {F : Hp} {θ : List Addr}
theorem RepK.any {vs : List (Key × V)} {ds : List (D × D)} (r : RepK K F θ vs ds) (k : Key) : (vs.any fun kv => decide (kv.1 = k)) = (ds.any fun kv => keyIsD kv.1 k) := by
  induction ds generalizing vs with
  | nil => cases r; rfl
  | cons d ds ih => cases r with | cons h r => simp only [List.any_cons, ih r, keyIs_kD]
theorem RepK.mapv {vs : List (Key × V)} {ds : List (D × D)} {v : V} {d : D} (r : RepK K F θ vs ds) (k : Key) (h : Rep K F θ v d) : RepK K F θ (vs.map fun kv => if kv.1 = k then (kv.1, v) else kv) (ds.map fun kv => if keyIsD kv.1 k = true then (kv.1, d) else kv) := by
  induction ds generalizing vs with
  | nil => cases r; exact .nil
  | cons e ds ih =>
    cases r with
    | @cons j w _ vs _ hw r =>
      simp only [List.map_cons, keyIs_kD, decide_eq_true_eq]
      by_cases q : j = k
      · rw [if_pos q, if_pos q]; exact .cons h (ih r)
      · rw [if_neg q, if_neg q]; exact .cons hw (ih r)
theorem RepK.app {vs ws : List (Key × V)} {ds es : List (D × D)} (r : RepK K F θ vs ds) (q : RepK K F θ ws es) : RepK K F θ (vs ++ ws) (ds ++ es) := by
  induction ds generalizing vs with
  | nil => cases r; exact q
  | cons d ds ih => cases r with | cons h r => exact .cons h (ih r)
theorem RepK.put {vs : List (Key × V)} {ds : List (D × D)} {v : V} {d : D} (r : RepK K F θ vs ds) (k : Key) (h : Rep K F θ v d) : RepK K F θ (putK vs k v) (putDD ds k d) := by
  unfold putK putDD
  rw [r.any k]
  by_cases q : (ds.any fun kv => keyIsD kv.1 k) = true
  · rw [if_pos q, if_pos q]; exact r.mapv k h
  · rw [if_neg q, if_neg q]; exact r.app (.cons h .nil)
theorem RepK.length {vs : List (Key × V)} {ds : List (D × D)} (r : RepK K F θ vs ds) : vs.length = ds.length := by
  induction ds generalizing vs with
  | nil => cases r; rfl
  | cons d ds ih => cases r with | cons h r => simp [ih r]
theorem key_rep {v : V} {d : D} {k : Key} (h : keyD d = some k) (r : Rep K F θ v d) : v = kV k := by
  cases d with
  | int i => cases h; cases r; rfl
  | str x => cases h; cases r; rfl
  | _ => cases h
end
section
variable {K : PySem.W.Frag} {L : Addr → Prop} {S : List OS} {g g1 : Gw} {H H1 : Hp} {σ : L2.St} {ρ : Ev}
theorem EnvOk.wroted (en : EnvOk K L g H σ ρ) {i : Nat} {a : Addr} {ds0 ds : List (D × D)} {vs : List (Key × V)} (hi : ρ[i]? = some (.ownd ds0)) (hs : σ[i]? = some (some (.ref a))) (r : RepK K g.F g.θ vs ds) : EnvOk K L g (upd H a (.dK vs)) σ (ρ.set i (.ownd ds)) := by
  have q0 := en.ok i _ _ hs hi
  obtain ⟨a', vs0, e, h0, r0, o0⟩ := q0
  cases e
  refine ⟨by simp [en.len], fun j sv sl h1 h2 => ?_, fun j k b x y hjk h1 h2 h3 h4 h5 h6 => ?_⟩
  · rcases own_key h2 with ⟨rfl, rfl⟩ | ⟨hj, h2⟩
    · rw [hs] at h1; cases h1
      exact ⟨a, vs, rfl, upd_same, r, o0⟩
    · have q := en.ok j sv sl h1 h2
      cases sl with
      | no => trivial
      | v d => exact q
      | own ds' =>
        obtain ⟨b, vs', e, h, r', o⟩ := q
        subst e
        have nb : b ≠ a := fun e => by subst e; exact en.dis j i b _ _ hj h1 hs h2 hi rfl rfl
        exact ⟨b, vs', rfl, by rw [upd_ne nb]; exact h, r', o⟩
      | ownd ds' =>
        obtain ⟨b, vs', e, h, r', o⟩ := q
        subst e
        have nb : b ≠ a := fun e => by subst e; exact en.dis j i b _ _ hj h1 hs h2 hi rfl rfl
        exact ⟨b, vs', rfl, by rw [upd_ne nb]; exact h, r', o⟩
  · have key : ∀ (m : Nat) (z : Sl), (ρ.set i (.ownd ds))[m]? = some z → z.isOwn = true → ∃ z', ρ[m]? = some z' ∧ z'.isOwn = true := fun m z h ho => by
      rcases own_key h with ⟨rfl, rfl⟩ | ⟨_, h⟩
      · exact ⟨_, hi, rfl⟩
      · exact ⟨z, h, ho⟩
    obtain ⟨x', q1, o1⟩ := key j x h3 h5
    obtain ⟨y', q2, o2⟩ := key k y h4 h6
    exact en.dis j k b x' y' hjk h1 h2 q1 q2 o1 o2
theorem EnvOk.frozed (en : EnvOk K L g H σ ρ) {i : Nat} {a : Addr} {ds : List (D × D)} {vs : List (Key × V)} (hi : ρ[i]? = some (.ownd ds)) (hs : σ[i]? = some (some (.ref a))) (ha : H a = some (.dK vs)) (hF : g.F a = none) (r : RepK K g.F g.θ vs ds) :
    EnvOk K L ⟨upd g.F a (.dK vs), g.θ⟩ H σ (ρ.set i (.v (.dic ds))) := by
  have fm := upd_fm (o := .dK vs) hF
  refine ⟨by simp [en.len], fun j sv sl h1 h2 => ?_, fun j k b x y hjk h1 h2 h3 h4 h5 h6 => ?_⟩
  · rcases own_key h2 with ⟨rfl, rfl⟩ | ⟨hj, h2⟩
    · rw [hs] at h1; cases h1
      exact ⟨_, rfl, .dic upd_same (r.mono fm fun _ _ z => z)⟩
    · have q := en.ok j sv sl h1 h2
      have own : ∀ {b : Addr}, sv = some (.ref b) → sl.isOwn = true → OwnAt g L b → OwnAt ⟨upd g.F a (.dK vs), g.θ⟩ L b := fun {b} e1 e2 o => by
        subst e1
        have nb : b ≠ a := fun e => by subst e; exact en.dis j i b _ _ hj h1 hs h2 hi e2 rfl
        exact ⟨o.1, by show upd g.F a _ b = none; rw [upd_ne nb]; exact o.2.1, o.2.2⟩
      cases sl with
      | no => trivial
      | v d => obtain ⟨v, e, rv⟩ := q; exact ⟨v, e, rv.mono fm fun _ _ z => z⟩
      | own ds' => obtain ⟨b, vs', e, h, r', o⟩ := q; exact ⟨b, vs', e, h, r'.mono fm (fun _ _ z => z), own e rfl o⟩
      | ownd ds' => obtain ⟨b, vs', e, h, r', o⟩ := q; exact ⟨b, vs', e, h, r'.mono fm (fun _ _ z => z), own e rfl o⟩
  · have key : ∀ (m : Nat) (z : Sl), (ρ.set i (.v (.dic ds)))[m]? = some z → z.isOwn = true → ρ[m]? = some z := fun m z h ho => by
      rcases own_key h with ⟨rfl, rfl⟩ | ⟨_, h⟩
      · cases ho
      · exact h
    exact en.dis j k b x y hjk h1 h2 (key j x h3 h5) (key k y h4 h6) h5 h6
end
section
variable {X : Cx} {E : XK} {g0 : Gw} {H0 : Hp} {mk mv : Ev → M D} {ke value : Expr} {x : Str} {px pos pos' : Pos}
def sFrzD (i : Nat) (s : SM) : SM := fun ρ => s (match ρ[i]? with
  | some (.ownd ds) => ρ.set i (.v (.dic ds))
  | _ => ρ)
theorem rs_frzD (i : Nat) {s : Stmt} {m : SM} (h : RS X g0 H0 E s m) : RS X g0 H0 E s (sFrzD i m) := by
  refine ps_weak h fun W σ H ⟨g, S, ρ, gr, ok, en, h⟩ => ?_
  unfold sFrzD at h
  split at h
  · rename_i ds e
    obtain ⟨sv, h1, a, vs, rfl, ha, r, hL, hF, hθ⟩ := slot_of en e
    refine ⟨⟨upd g.F a (.dK vs), g.θ⟩, S, _, ⟨gr.dom, gr.keep, gr.th, fun b o e => upd_fm hF b o (gr.fm b o e), fun b o e => ?_⟩, ok.froze ha hF hθ, en.frozed e h1 ha hF r, wp_mono h (fun _ _ z => z.ext ⟨upd_fm hF, fun _ _ z => z⟩) fun _ _ z => z⟩
    by_cases hb : b = a
    · subst hb; exact .inr hL
    · have e : upd g.F a (.dK vs) b = some o := e
      rw [upd_ne hb] at e; exact gr.fn b o e
  · exact ⟨g, S, ρ, gr, ok, en, h⟩
/-- name[k] = v, name one's own dict -/
def sPutO (i : Nat) (mk mv : Ev → M D) : SM := fun ρ => mv ρ >>= fun v => match ρ[i]? with
  | some (.ownd kvs) => mk ρ >>= fun d => match keyD d with
    | some k => if kvs.length < sizeLine then .ret (.nx (ρ.set i (.ownd (putDD kvs k v)))) else .bad
    | none => .bad
  | _ => .bad
theorem rs_putO (i : Nat) (hu : X.A.units + 65 < cLine) (hk : RE X E ke mk) (ha : RE X E value mv) (hN : X.N[i]? = some x := by rfl) (hv : Vis X.env.scope x := by first | exact Or.inl rfl | exact Or.inr (Or.inl rfl) | exact Or.inr (Or.inr rfl)) (hd : (x == ("__debug__" : Str)) = false := by decide)
    (hcd : (x == ("__classdict__" : Str)) = false := by decide) (hs : swapsWith value (some (.Subscript (.Name x px) ke pos')) pos.line X.env = pure false := by rfl) :
    RS X g0 H0 E (.Assign [.Subscript (.Name x px) ke pos'] value pos) (sPutO i mk mv) := by
  refine ps_weak (ps_dput (by omega) (pe_var hN hv hd hcd) hk ha hs) fun W σ H ⟨g, S, ρ, gr, ok, en, h⟩ => ?_
  refine ⟨g, S, ρ, _, ok, en, wp_mono (wp_bind.mp h) (fun d S1 h1 g1 H1 v gr1 ok1 r => ?_) fun _ _ z => z.grow gr⟩
  split at h1
  · rename_i kvs e
    obtain ⟨sv, e1, l, vs, rfl, hl, rk, hL, hF, hθ⟩ := slot_of (en.grow gr1) e
    refine ⟨_, e1, g1, S1, ρ, _, ok1, en.grow gr1, wp_mono (wp_bind.mp h1) (fun dk S2 h2 g2 H2 y gr2 ok2 ry => ?_) fun _ _ z => z.grow (gr.trans gr1)⟩
    cases ek : keyD dk with
    | none => rw [ek] at h2; exact h2.elim
    | some k =>
      rw [ek] at h2
      obtain ⟨hz, h2⟩ := wp_guard h2
      obtain rfl := key_rep ek ry
      have hl2 := gr2.keep _ _ hl hθ
      have own2 := (show OwnAt g1 (fun a => H0 a = none) l from ⟨hL, hF, hθ⟩).grow hl gr2
      have en2 := (en.grow gr1).grow gr2
      have gr12 := gr1.trans gr2
      exact ⟨l, _, rfl, DPut.k hl2 (by rw [rk.length]; exact hz), h2 g2 _ σ ((gr.trans gr12).wrote hL) gr12.ext (ok2.wrote hl2 own2.2.1 own2.2.2) (en2.wroted e e1 ((RepK.grow gr2 rk).put k (gr2.rep r)))⟩
  · exact h1.elim
end
end F
namespace F
open PySem PySem.Spec PyProof.Rows L2
/-! ## calls that leave defaults out -/
structure Fnd (P : Program) (w : World) (K : PySem.W.Frag) (mg : Str → Option Value) (base : Heap) (k : Nat) (x : Str) (m : Nat) (dd : List D) (fM : List D → M D) : Prop where
  ex : ∃ (f : Addr) (fd : FuncData) (ps : List Str) (dvs : List V) (ds : List Value), FnG P w K mg base k f fd ps (spM K mg ps.length fM) ∧ mg x = some (.ref f) ∧ PySem.W.keepIn K (.ref f) = true ∧ Binds K fd ps ds ∧ Vals dvs ds ∧ (∀ F θ, RepL K F θ dvs dd) ∧ m + dd.length = ps.length
section
variable {X : Cx} {E : XK} {j k m : Nat} {x : Str} {fM : List D → M D} {e : Expr} {es : List Expr} {p pos : Pos} {mas : Ev → M (List D)} {dd : List D}
def eFd (m : Nat) (dd : List D) (fM : List D → M D) (mas : Ev → M (List D)) : Ev → M D := eF m (fun xs => fM (xs ++ dd)) mas
theorem callD_go {f : Addr} {fd : FuncData} {ps : List Str} {dvs : List V} {ds : List Value} (F : FnG X.prog X.w X.K X.mg X.base k f fd ps (spM X.K X.mg ps.length fM)) (c : Cal X E k) (gd : X.A.guards = some []) (hb : Binds X.K fd ps ds) (hv : Vals dvs ds) (hr : ∀ F θ, RepL X.K F θ dvs dd) (hm : m + dd.length = ps.length) :
    CallR X (.ref f) (spM X.K X.mg m (fun xs => fM (xs ++ dd)) · · · E) := by
  intro pins s σ H vs us Q I r ⟨h0, g, S, xs, ok, rp, h⟩
  have l1 : dvs.length = dd.length := (hr (fun _ => none) []).length
  have l2 : (us ++ ds).length = ps.length := by rw [List.length_append, ← r.length, ← hv.length, h0, l1, hm]
  refine wpAny_call (codeAny_mono (F.go X.A X.stack s H ⟨us, []⟩ (us ++ ds) (vs ++ dvs) Q E c.room gd I.env0 (hb s us I.kIn l2) (r.append hv) ⟨by rw [List.length_append, h0, l1, hm], g, S, xs ++ dd, ok, rp.append (hr _ _), h⟩) fun r s' hq => ?_)
  match r, hq with
  | .error e, hq => exact c.ps pins σ H s e s' I hq
  | .ok (.ret u), hq => exact I.after hq
  | .ok .next, hq => exact hq.elim
  | .ok .brk, hq => exact hq.elim
  | .ok .cont, hq => exact hq.elim
theorem re_fd (fn : Fnd X.prog X.w X.K X.mg X.base j x m dd fM) (c : Cal X E k) (gd : X.A.guards = some []) (hjk : j ≤ k) (hg : Gl X x) (ha : RA X E (e :: es) mas) (hdb : (x == ("__debug__" : Str)) = false := by decide)
    (he : starEach (e :: es) X.env = (false, eval e X.env) :: starEach es X.env := by rfl) (hpl : (backTo pos (starEach es X.env)).any (·.1) = false := by rfl) : RE X E (.Call (.Name x p) (e :: es) [] pos) (eFd m dd fM mas) := by
  obtain ⟨f, fd, ps, dvs, ds, G, hm, hk, hb, hv, hr, hn⟩ := fn.ex
  exact re_f0 (callD_go (G.mono hjk) c gd hb hv hr hn) hg hm hk ha hdb he hpl
end
/-! ## a def with defaults by its body -/
section
variable {P : Program} {w : World} {K : PySem.W.Frag} {mg : Str → Option Value} {base : Heap} {x : Str} {k : Nat}
variable {qual : Str} {params : Arguments} {body : List Stmt} {scope : Scope} {f : Addr} {fd : FuncData} {N ps : List Str} {bm : SM} {dvs : List V} {kws : List (Str × V)}
theorem fnCd (F : FunD K x qual params body scope dvs kws f fd) (S : FnScope N ps scope)
    (hb : ∀ (cdv : Value) (A : Around) (outer : List PySem.Env) (s : Shared) (g0 : Gw) (H : Hp) (E : XK), Def0 (cxD P w K mg base N qual scope f cdv A outer s H E) E k → (cxD P w K mg base N qual scope f cdv A outer s H E).A.guards = some [] →
      RSs (cxD P w K mg base N qual scope f cdv A outer s H E) g0 H E body bm) : FnG P w K mg base (k + 1) f fd ps (spM K mg ps.length (runB N.length bm)) := by
  obtain ⟨oc, od, dV, kV, doc, pm, an, cdv, ct, osl, rfl, lk, hcd, _, _⟩ := F.ex
  refine ⟨fun vs H Q E h => h.1, fun A outer s H args us vs Q E hr hgd e0 hbd r hsp => ?_⟩
  have keep : ∀ b o, base.get? b = some o → s.heap.get? b = some o := fun b o e => (e0.bs b o e).1
  refine codeAny_call_function hr.depth (e0.mod.kin.keeps keep _ _ lk) rfl S.co S.gen rfl (PySem.W.codeRec_of (e0.mod.kin.keeps keep) hcd) (hbd _ _ _ _ (wpAny_newFunctionEnv_cells S.kind (fun y hy => ?_) fun env he s1 x => ?_))
  · rcases S.par y.1 (List.of_mem_zip hy).1 with q | q
    · exact .inl q
    · exact .inr ⟨q, PySem.W.cellsFrom_some _ _ _ (.inl q)⟩
  subst he
  refine ⟨(e0.mod.nolimit.keeps keep).keeps x.toInCall.keep, codeAny_func ?_⟩
  have I : Inv (cxD P w K mg base N qual scope f cdv A outer s H E) [] (start N vs) H s1 := inv_start S hr.hd e0 hsp.1 r x
  obtain ⟨g, hq⟩ := body_go hsp.2
  have d0 : Def0 (cxD P w K mg base N qual scope f cdv A outer s H E) E k := ⟨rfl, takes_of rfl rfl rfl rfl, hr.deeper _, passes_of rfl⟩
  refine wpAny_mono ((hb cdv A outer s g H E d0 hgd).run [] s1 (start N vs) H _ I hq) (fun fl s' hs => ?_) fun e s' hs => hs
  cases fl with
  | ret u => obtain ⟨v, σ', H', J, rv, q⟩ := hs; exact ⟨v, H', J.os, J.bare, J.base, J.hok, rv, q⟩
  | next => obtain ⟨σ', H', J, q⟩ := hs; exact ⟨V.non, H', J.os, J.bare, J.base, J.hok, rfl, q⟩
  | brk => obtain ⟨_, _, _, q⟩ := hs; exact q.elim
  | cont => obtain ⟨_, _, _, q⟩ := hs; exact q.elim
/-- all arguments given although there are defaults -/
theorem fnc_d {n : Nat} {fM : List D → M D} (F : FunD K x qual params body scope dvs [] f fd) (hm : mg x = some (.ref f)) (hn : ps.length = n) (G : FnG P w K mg base k f fd ps (spM K mg n fM)) (hd : dvs ≠ [])
    (h : ∀ (T : Addr) (kV doc pm : Value) (an : Option Addr) (cdv ct : Value) (us its : List Value), us.length = ps.length → its.length = dvs.length →
      ∃ k, bindArgs (PySem.W.fnOf x qual params body scope (.ref T) kV doc pm an cdv ct) ⟨us, []⟩ = seqItems? (.ref T) >>= k ∧ k (some its.toArray) = pure (ps.zip (us ++ its.drop dvs.length))) : Fnc P w K mg base k x n fM := by
  obtain ⟨ds, hv, hb⟩ := F.binds1 ps.length dvs.length hd (by omega) h
  rw [List.drop_length] at hv
  cases hv
  exact ⟨f, fd, ps, G, hm, F.kp, hb, hn⟩
/-- the defaults behind the first j left out -/
theorem fnd_of {m j : Nat} {fM : List D → M D} {dd : List D} (F : FunD K x qual params body scope dvs [] f fd) (hm : mg x = some (.ref f)) (G : FnG P w K mg base k f fd ps (spM K mg ps.length fM)) (hd : dvs ≠ []) (hn : m + (dvs.length - j) = ps.length) (hr : ∀ F θ, RepL K F θ (dvs.drop j) dd)
    (h : ∀ (T : Addr) (kV doc pm : Value) (an : Option Addr) (cdv ct : Value) (us its : List Value), us.length = m → its.length = dvs.length →
      ∃ k, bindArgs (PySem.W.fnOf x qual params body scope (.ref T) kV doc pm an cdv ct) ⟨us, []⟩ = seqItems? (.ref T) >>= k ∧ k (some its.toArray) = pure (ps.zip (us ++ its.drop j))) : Fnd P w K mg base k x m dd fM := by
  obtain ⟨ds, hv, hb⟩ := F.binds1 m j hd hn h
  have l : dd.length = dvs.length - j := by rw [← (hr (fun _ => none) []).length, List.length_drop]
  exact ⟨f, fd, ps, dvs.drop j, ds, G, hm, F.kp, hb, hv, hr, by rw [l]; exact hn⟩
end
end F
namespace F
open PySem PySem.Spec PyProof.Rows L2
/-! ## keywords in any order: pf turns the keywords' order into the parameters' -/
structure Fnkp (P : Program) (w : World) (K : PySem.W.Frag) (mg : Str → Option Value) (base : Heap) (k : Nat) (x : Str) (ks : List Str) (ix : List Nat) (fM : List D → M D) : Prop where
  ex : ∃ (f : Addr) (fd : FuncData) (ps : List Str), FnG P w K mg base k f fd ps (spM K mg ks.length fM) ∧ mg x = some (.ref f) ∧ PySem.W.keepIn K (.ref f) = true ∧ ix.length = ks.length ∧ (∀ i ∈ ix, i < ks.length) ∧
    (∀ (s : Shared) (ws : List Value), ws.length = ks.length → BindsTo s fd ⟨[], ks.zip ws⟩ (ps.zip (ix.filterMap fun i => ws[i]?)))
theorem vals_ix {vs : List V} {us : List Value} (r : Vals vs us) : ∀ ix : List Nat, (∀ i ∈ ix, i < vs.length) → Vals (ix.filterMap fun i => vs[i]?) (ix.filterMap fun i => us[i]?)
  | [], _ => .nil
  | i :: ix, h => by
    have hi := h i (by simp)
    obtain ⟨u, hu, ru⟩ := r.get (List.getElem?_eq_getElem hi)
    rw [List.filterMap_cons, List.filterMap_cons, List.getElem?_eq_getElem hi, hu]
    exact .cons ru (vals_ix r ix fun j hj => h j (by simp [hj]))
theorem repL_ix {K : PySem.W.Frag} {F : Hp} {θ : List Addr} {vs : List V} {ds : List D} (r : RepL K F θ vs ds) : ∀ ix : List Nat, (∀ i ∈ ix, i < ds.length) → RepL K F θ (ix.filterMap fun i => vs[i]?) (ix.filterMap fun i => ds[i]?)
  | [], _ => .nil
  | i :: ix, h => by
    have hi := h i (by simp)
    obtain ⟨u, hu, ru⟩ := r.get (List.getElem?_eq_getElem hi)
    rw [List.filterMap_cons, List.filterMap_cons, List.getElem?_eq_getElem hi, hu]
    exact .cons ru (repL_ix r ix fun j hj => h j (by simp [hj]))
theorem len_ix {α : Type} (vs : List α) : ∀ ix : List Nat, (∀ i ∈ ix, i < vs.length) → (ix.filterMap fun i => vs[i]?).length = ix.length
  | [], _ => rfl
  | i :: ix, h => by
    rw [List.filterMap_cons, List.getElem?_eq_getElem (h i (by simp))]
    simp [len_ix vs ix fun j hj => h j (by simp [hj])]
section
variable {X : Cx} {E : XK} {j k : Nat} {x : Str} {ks : List Str} {ix : List Nat} {fM : List D → M D} {kws : List Keyword} {p pos : Pos} {mas : Ev → M (List D)}
def eFp (n : Nat) (ix : List Nat) (fM : List D → M D) (mas : Ev → M (List D)) : Ev → M D := eF n (fun ds => fM (ix.filterMap fun i => ds[i]?)) mas
theorem re_fkp (fn : Fnkp X.prog X.w X.K X.mg X.base j x ks ix fM) (c : Cal X E k) (gd : X.A.guards = some []) (hjk : j ≤ k) (hg : Gl X x) (ha : RK X E kws mas)
    (hks : (backToKw pos (keywordEach kws X.env)).filterMap (·.1) = ks := by rfl) (hall : (backToKw pos (keywordEach kws X.env)).all (·.1.isSome) = true := by rfl) (hdb : (x == ("__debug__" : Str)) = false := by decide)
    (hpl : ((backTo pos (starEach [] X.env)).any (·.1) || (backToKw pos (keywordEach kws X.env)).any (·.1.isNone)) = false := by rfl) :
    RE X E (.Call (.Name x p) [] kws pos) (eFp ks.length ix fM mas) := by
  obtain ⟨f, fd, ps, G, hm, hk, hl, hix, hb⟩ := fn.ex
  refine ⟨fun pins s σ H Q I ⟨g, S, ρ, L, ok, en, h⟩ => ?_⟩
  refine wpAny_Call_Name_kw (ld_glob I hg hm ?_ hdb)
  refine PySem.W.callWith_KW0 (h₀ := X.base) I.ok.mod.kin hk hall ?_ hpl
  refine thn (ha.run pos pins s σ H (fun vs H1 => vs.length = ks.length ∧ spM X.K X.mg ks.length fM (ix.filterMap fun i => vs[i]?) H1 Q E) I ⟨g, S, ρ, L, ok, en, wp_mono (wp_bind.mp h) (fun ds S1 h1 g1 H1 vs gr ok1 r => ?_) fun _ _ z => z⟩) fun ws s2 ⟨zs, H2, I2, rz, q1, q2⟩ => ⟨I2.kIn, ?_⟩
  · obtain ⟨hz, h1⟩ := wp_guard h1
    have hv : vs.length = ks.length := r.length.trans hz
    exact ⟨hv, (len_ix vs ix (by rw [hv]; exact hix)).trans hl, g1, S1, _, ok1, repL_ix r ix (by rw [hz]; exact hix), wp_mono h1 (fun _ _ z => z.grow gr) fun _ _ z => z.grow gr⟩
  · rw [hks]
    refine wpAny_call (codeAny_mono (G.go X.A X.stack s2 H2 ⟨[], ks.zip ws⟩ _ _ Q E (c.room.mono hjk) gd I2.env0 (hb s2 ws (rz.length.symm.trans q1)) (vals_ix rz ix (by rw [q1]; exact hix)) q2) fun r s' hq => ?_)
    match r, hq with
    | .error e, hq => exact c.ps pins σ H2 s2 e s' I2 hq
    | .ok (.ret u), hq => exact I2.after hq
    | .ok .next, hq => exact hq.elim
    | .ok .brk, hq => exact hq.elim
    | .ok .cont, hq => exact hq.elim
end
section
variable {P : Program} {w : World} {K : PySem.W.Frag} {mg : Str → Option Value} {base : Heap} {x : Str} {k : Nat}
variable {qual : Str} {params : Arguments} {body : List Stmt} {scope : Scope} {f : Addr} {fd : FuncData} {ps : List Str}
theorem fnkp_of {ks : List Str} (ix : List Nat) {fM : List D → M D} (F : FunD K x qual params body scope [] [] f fd) (hm : mg x = some (.ref f)) (G : FnG P w K mg base k f fd ps (spM K mg ks.length fM)) (hl : ix.length = ks.length) (hix : ∀ i ∈ ix, i < ks.length)
    (hb : ∀ (kV doc pm : Value) (an : Option Addr) (cdv ct : Value) (ws : List Value), ws.length = ks.length → bindArgs (PySem.W.fnOf x qual params body scope .none kV doc pm an cdv ct) ⟨[], ks.zip ws⟩ = pure (ps.zip (ix.filterMap fun i => ws[i]?))) : Fnkp P w K mg base k x ks ix fM := by
  obtain ⟨kV, doc, pm, an, cdv, ct, rfl⟩ := FunD.fd_eq F
  exact ⟨f, _, ps, G, hm, F.kp, hl, hix, fun s ws hl => .of_eq (hb kV doc pm an cdv ct ws hl)⟩
end
end F
namespace LZ
open PySem PySem.Spec PyProof.Rows PySem.W
abbrev DrawsH (prog : Program) (w : World) (it : Addr) (fp : List Addr) (n : Nat) (P : Nat → Value → Prop) (St : Nat → Heap → Prop) : Prop := ∀ A : Around, A.handled = none → Draws prog w A it fp n P St
theorem in1h {A : Around} (h : A.handled = none) : A.in1.handled = none := h
section
variable {prog : Program} {w : World} {A : Around} {E : Value → Shared → Prop} {s : Shared} {z TI TO i1 i2 S : Addr} {fp1 fp2 : List Addr} {n1 n2 i : Nat} {P1 P2 : Nat → Value → Prop} {St1 St2 : Nat → Heap → Prop}
/-- one more pair out of a zip whose last pair is still held -/
theorem zp_item_held (hh : A.handled = none) {T : Addr} {f : Bool} {oT : Obj} {Q : Option Value → Shared → Prop} (Z : ZipSep2 z TI TO i1 i2 fp1 fp2) (D1 : DrawsH prog w i1 fp1 n1 P1 St1) (D2 : DrawsH prog w i2 fp2 n2 P2 St2)
    (hz : IsZipHeld s.heap z TI TO T f) (hT : s.heap.get? T = some oT) (hTI : IsTupOf2 s.heap TI (.ref i1) (.ref i2)) (t1 : St1 i s.heap) (t2 : St2 i s.heap) (l1 : i < n1) (l2 : i < n2)
    (hQ : ∀ x y h' tk, P1 i x → P2 i y → IsZipHeld h' z TI TO T true → St1 (i + 1) h' → St2 (i + 1) h' → IsTupOf2 h' s.heap.objs.size x y → h'.objs.size = s.heap.objs.size + 1 →
      (∀ c o, c ∉ [z, i1, i2] → s.heap.get? c = some o → h'.get? c = some o) → Q (some (.ref s.heap.objs.size)) { s with heap := h', toks := tk }) :
    wpAny (model prog w) A (pyNext (.ref z)) Q E s := by
  obtain ⟨hp, gg, dd, tk0, os⟩ := s
  have hTy : Shared.TypeIs ⟨hp, gg, dd, tk0, os⟩ (.ref z) "zip" := ⟨_, hz, rfl⟩
  unfold pyNext
  refine wpAny_bind (wpAny_attempt (wpAny_callSpecial?_slot (name := Str.ofString "__next__") hTy F.slot_zip_next (wpAny_call_entry F.slot_zip_next hTy F.entry_zip_next ?_ (F.args_zip_next_1 _))))
  show wpAny _ _ (field (.ref z) 2 >>= _) _ _ _; refine wpAny_bind (wpAny_field hz rfl (x := .bool false) rfl ?_)
  show wpAny _ _ (field (.ref z) 3 >>= _) _ _ _; refine wpAny_bind (wpAny_field hz rfl (x := .ref TI) rfl (wpAny_bind (wpAny_seqItems hTI rfl ?_)))
  show wpAny _ _ (Builtin.SmallTypes.ownedTupleIsFree (.ref z) >>= _) _ _ _; refine wpAny_bind (wpAny_tupleHeld_zip hz hT fun k0 e0 b0 => ?_)
  replace b0 : Heap.SameBut z hp k0 := b0
  simp only [Bool.false_eq_true, if_false]
  refine wpAny_bind ?_; rw [← Array.forIn_toList]; simp only [List.forIn_cons, List.forIn_nil]; refine wpAny_bind (wpAny_bind (wpAny_holding ?_))
  show wpAny _ _ (Builtin.SmallTypes.nextOf (.ref i1) >>= _) _ _ ⟨k0, gg, dd, tk0, os⟩
  refine wpAny_bind ((D1 _ (in1h hh)).item i _ _ _ l1 ((D1 A hh).over t1 b0 Z.zf1) fun x k1 tk1 px u1 b1 => wpAny_pure ?_)
  replace b1 : Heap.SameBut i1 k0 k1 := b1
  refine wpAny_pure (wpAny_bind (wpAny_bind (wpAny_holding ?_)))
  show wpAny _ _ (Builtin.SmallTypes.nextOf (.ref i2) >>= _) _ _ ⟨k1, gg, dd, tk1, os⟩
  refine wpAny_bind ((D2 _ (in1h hh)).item i _ _ _ l2 ((D2 A hh).over ((D2 A hh).over t2 b0 Z.zf2) b1 Z.sep1_2) fun y k2 tk2 py u2 b2 => wpAny_pure (wpAny_pure (wpAny_pure ?_)))
  replace b2 : Heap.SameBut i2 k1 k2 := b2
  show wpAny _ _ (newTuple [x, y] >>= _) _ _ ⟨k2, gg, dd, tk2, os⟩
  refine wpAny_bind (wpAny_newTuple (wpAny_pure ⟨_, rfl, wpAny_pure ?_⟩))
  have hsz : k2.objs.size = hp.objs.size := by rw [b2.1, b1.1, b0.1]
  have nz : IsZipHeld k2 z TI TO T true := b2.extBut _ _ Z.zi2 (b1.extBut _ _ Z.zi1 e0)
  have keep : ∀ c o, c ∉ [z, i1, i2] → hp.get? c = some o → k2.get? c = some o := fun c o hc e => by
    simp only [List.mem_cons, List.not_mem_nil, or_false, not_or] at hc
    exact b2.extBut _ _ hc.2.2 (b1.extBut _ _ hc.2.1 (b0.extBut _ _ hc.1 e))
  have up : ∀ c o, k2.get? c = some o → (k2.push { cls := .type "tuple", data := .seq #[x, y] }).get? c = some o := fun c o e => Heap.get?_push_of_some _ e
  have np : IsTupOf2 (k2.push { cls := .type "tuple", data := .seq #[x, y] }) k2.objs.size x y := Heap.get?_push_size _ rfl
  have ns : (k2.push { cls := .type "tuple", data := .seq #[x, y] }).objs.size = k2.objs.size + 1 := Heap.size_push ..
  show Q (some (.ref k2.objs.size)) _
  rw [hsz] at np ns ⊢
  exact hQ x y _ tk2 px py (up _ _ nz) ((D1 A hh).frame _ _ _ ((D1 A hh).over u1 b2 Z.sep2_1) fun b _ o e => up b o e) ((D2 A hh).frame _ _ _ u2 fun b _ o e => up b o e) np ns fun c o hc e => up c o (keep c o hc e)
theorem zp_end_held (hh : A.handled = none) {T : Addr} {f : Bool} {oT : Obj} {Q : Option Value → Shared → Prop} (Z : ZipSep2 z TI TO i1 i2 fp1 fp2) (D1 : DrawsH prog w i1 fp1 n1 P1 St1) (D2 : DrawsH prog w i2 fp2 n2 P2 St2)
    (hz : IsZipHeld s.heap z TI TO T f) (hT : s.heap.get? T = some oT) (hTI : IsTupOf2 s.heap TI (.ref i1) (.ref i2)) (t1 : St1 i s.heap) (t2 : St2 i s.heap) (l1 : i ≤ n1) (l2 : i ≤ n2) (le : i = n1 ∨ i = n2)
    (hQ : ∀ h' tk, (∀ c o, c ∉ [z, i1, i2] → s.heap.get? c = some o → h'.get? c = some o) → Q none { s with heap := h', toks := tk }) :
    wpAny (model prog w) A (pyNext (.ref z)) Q E s := by
  obtain ⟨hp, gg, dd, tk0, os⟩ := s
  have hTy : Shared.TypeIs ⟨hp, gg, dd, tk0, os⟩ (.ref z) "zip" := ⟨_, hz, rfl⟩
  have three : ∀ {c : Addr}, c ∉ [z, i1, i2] → c ≠ z ∧ c ≠ i1 ∧ c ≠ i2 := fun hc => by simpa only [List.mem_cons, List.not_mem_nil, or_false, not_or] using hc
  unfold pyNext
  refine wpAny_bind (wpAny_attempt (wpAny_callSpecial?_slot (name := Str.ofString "__next__") hTy F.slot_zip_next (wpAny_call_entry F.slot_zip_next hTy F.entry_zip_next ?_ (F.args_zip_next_1 _))))
  show wpAny _ _ (field (.ref z) 2 >>= _) _ _ _; refine wpAny_bind (wpAny_field hz rfl (x := .bool false) rfl ?_)
  show wpAny _ _ (field (.ref z) 3 >>= _) _ _ _; refine wpAny_bind (wpAny_field hz rfl (x := .ref TI) rfl (wpAny_bind (wpAny_seqItems hTI rfl ?_)))
  show wpAny _ _ (Builtin.SmallTypes.ownedTupleIsFree (.ref z) >>= _) _ _ _; refine wpAny_bind (wpAny_tupleHeld_zip hz hT fun k0 e0 b0 => ?_)
  replace b0 : Heap.SameBut z hp k0 := b0
  simp only [Bool.false_eq_true, if_false]
  refine wpAny_bind ?_; rw [← Array.forIn_toList]; simp only [List.forIn_cons, List.forIn_nil]; refine wpAny_bind (wpAny_bind (wpAny_holding ?_))
  show wpAny _ _ (Builtin.SmallTypes.nextOf (.ref i1) >>= _) _ _ ⟨k0, gg, dd, tk0, os⟩
  have u1 : St1 i k0 := (D1 A hh).over t1 b0 Z.zf1
  have u2 : St2 i k0 := (D2 A hh).over t2 b0 Z.zf2
  rcases Nat.lt_or_ge i n1 with a1 | a1
  · have e2 : i = n2 := by omega
    refine wpAny_bind ((D1 _ (in1h hh)).item i _ _ _ a1 u1 fun x k1 tk1 px _ b1 => wpAny_pure ?_)
    replace b1 : Heap.SameBut i1 k0 k1 := b1
    refine wpAny_pure (wpAny_bind (wpAny_bind (wpAny_holding ?_)))
    show wpAny _ _ (Builtin.SmallTypes.nextOf (.ref i2) >>= _) _ _ ⟨k1, gg, dd, tk1, os⟩
    subst e2
    refine wpAny_bind ((D2 _ (in1h hh)).done _ _ _ ((D2 A hh).over u2 b1 Z.sep1_2) fun k2 e b2 ⟨oe, he, hc⟩ => ?_)
    refine wpAny_bind (wpAny_isInstance (T := "StopIteration") (b := true) ⟨oe, he, hc⟩ isSubtype_stop (wpAny_pure (hQ _ tk1 fun c o hc e => ?_)))
    obtain ⟨c1, c2, c3⟩ := three hc
    exact b2 _ _ c3 (b1.extBut _ _ c2 (b0.extBut _ _ c1 e))
  · have e1 : i = n1 := by omega
    subst e1
    refine wpAny_bind ((D1 _ (in1h hh)).done _ _ _ u1 fun k1 e b1 ⟨oe, he, hc⟩ => ?_)
    refine wpAny_bind (wpAny_isInstance (T := "StopIteration") (b := true) ⟨oe, he, hc⟩ isSubtype_stop (wpAny_pure (hQ _ tk0 fun c o hc e => ?_)))
    obtain ⟨c1, c2, c3⟩ := three hc
    exact b1 _ _ c2 (b0.extBut _ _ c1 e)
end
end LZ
namespace LZ
open PySem PySem.Spec PyProof.Rows PySem.W
theorem zp_nolen : typeLookup (.type "zip") "__len__" = pure none := by
  rw [typeLookup_type, builtinLookup_eq_fast]; kernel_rfl
theorem zp_nohint : typeLookup (.type "zip") "__length_hint__" = pure none := by
  rw [typeLookup_type, builtinLookup_eq_fast]; kernel_rfl
section
variable {prog : Program} {w : World} {A : Around} {E : Value → Shared → Prop} {s : Shared} {z TI TO i1 i2 S : Addr} {fp1 fp2 : List Addr} {n1 n2 i : Nat} {P1 P2 : Nat → Value → Prop} {St1 St2 : Nat → Heap → Prop}
/-- a zip i turns on -/
structure ZS (z TI TO i1 i2 S : Addr) (St1 St2 : Nat → Heap → Prop) (i : Nat) (h : Heap) : Prop where
  ti : IsTupOf2 h TI (.ref i1) (.ref i2)
  t1 : St1 i h
  t2 : St2 i h
  at_ : (IsZip h z TI TO .none ∧ ∃ a b, IsTupOf2 h TO a b) ∨ ∃ T f oT, IsZipHeld h z TI TO T f ∧ h.get? T = some oT ∧ T ∉ [z, i1, i2] ∧ T ≠ S
structure Far (z TI TO i1 i2 S : Addr) (fp1 fp2 : List Addr) : Prop where
  z : z < S
  TI : TI < S
  TO : TO < S
  i1 : i1 < S
  i2 : i2 < S
  f1 : S ∉ fp1
  f2 : S ∉ fp2
theorem ZS.keep (hh : A.handled = none) {h h' : Heap} (x : ZS z TI TO i1 i2 S St1 St2 i h) (D1 : DrawsH prog w i1 fp1 n1 P1 St1) (D2 : DrawsH prog w i2 fp2 n2 P2 St2) (F : Far z TI TO i1 i2 S fp1 fp2) (hk : ∀ b o, b ≠ S → h.get? b = some o → h'.get? b = some o) : ZS z TI TO i1 i2 S St1 St2 i h' := by
  refine ⟨hk _ _ (Nat.ne_of_lt F.TI) x.ti, (D1 A hh).frame _ _ _ x.t1 fun b hb o e => hk b o (fun q => F.f1 (q ▸ hb)) e, (D2 A hh).frame _ _ _ x.t2 fun b hb o e => hk b o (fun q => F.f2 (q ▸ hb)) e, ?_⟩
  rcases x.at_ with ⟨a, u, v, b⟩ | ⟨T, f, oT, a, b, c, d⟩
  · exact .inl ⟨hk _ _ (Nat.ne_of_lt F.z) a, u, v, hk _ _ (Nat.ne_of_lt F.TO) b⟩
  · exact .inr ⟨T, f, oT, hk _ _ (Nat.ne_of_lt F.z) a, hk _ _ d b, c, d⟩
theorem zs_item (hh : A.handled = none) {Q : Option Value → Shared → Prop} (Z : ZipSep2 z TI TO i1 i2 fp1 fp2) (D1 : DrawsH prog w i1 fp1 n1 P1 St1) (D2 : DrawsH prog w i2 fp2 n2 P2 St2) (hS : S < s.heap.objs.size) (x : ZS z TI TO i1 i2 S St1 St2 i s.heap) (l1 : i < n1) (l2 : i < n2)
    (hQ : ∀ x y h' tk, P1 i x → P2 i y → ZS z TI TO i1 i2 S St1 St2 (i + 1) h' → IsTupOf2 h' s.heap.objs.size x y → h'.objs.size = s.heap.objs.size + 1 → (∀ c o, c ∉ [z, TO, i1, i2] → s.heap.get? c = some o → h'.get? c = some o) → Q (some (.ref s.heap.objs.size)) { s with heap := h', toks := tk }) :
    wpAny (model prog w) A (pyNext (.ref z)) Q E s := by
  obtain ⟨oi1, hi1⟩ := (D1 A hh).live _ _ x.t1
  obtain ⟨oi2, hi2⟩ := (D2 A hh).live _ _ x.t2
  have q1 := Nat.ne_of_gt (Heap.lt_size hi1)
  have q2 := Nat.ne_of_gt (Heap.lt_size hi2)
  rcases x.at_ with ⟨a, u, v, b⟩ | ⟨T, f, oT, a, b, c, d⟩
  · have q0 := Nat.ne_of_gt (Heap.lt_size a)
    have hTy : s.TypeIs (.ref z) "zip" := ⟨_, a, rfl⟩
    unfold pyNext
    refine wpAny_bind (wpAny_attempt (wpAny_callSpecial?_slot (name := Str.ofString "__next__") hTy F.slot_zip_next (wpAny_call_entry F.slot_zip_next hTy F.entry_zip_next ?_ (F.args_zip_next_1 _))))
    refine zipD2_next_item Z (D1 _ (in1h hh)) (D2 _ (in1h hh)) a x.ti b x.t1 x.t2 l1 l2 fun x1 x2 h' tk p1 p2 a1 a2 a3 a4 a5 a6 a7 => wpAny_pure (hQ x1 x2 h' tk p1 p2 ⟨?_, a3, a4, .inr ⟨_, false, _, a1, a5, ?_, Nat.ne_of_gt hS⟩⟩ a5 a6 fun c o hc e => ?_)
    · exact a7 _ _ Z.TIz Z.TITO Z.TIi1 Z.TIi2 x.ti
    · simp only [List.mem_cons, List.not_mem_nil, or_false, not_or]; exact ⟨q0, q1, q2⟩
    · simp only [List.mem_cons, List.not_mem_nil, or_false, not_or] at hc
      exact a7 c o hc.1 hc.2.1 hc.2.2.1 hc.2.2.2 e
  · refine zp_item_held hh Z D1 D2 a b x.ti x.t1 x.t2 l1 l2 fun x1 x2 h' tk p1 p2 a1 a3 a4 a5 a6 a7 => hQ x1 x2 h' tk p1 p2 ⟨?_, a3, a4, .inr ⟨T, true, oT, a1, a7 _ _ c b, c, d⟩⟩ a5 a6 fun k o hc e => ?_
    · exact a7 _ _ (by simp only [List.mem_cons, List.not_mem_nil, or_false, not_or]; exact ⟨Z.TIz, Z.TIi1, Z.TIi2⟩) x.ti
    · simp only [List.mem_cons, List.not_mem_nil, or_false, not_or] at hc
      exact a7 k o (by simp only [List.mem_cons, List.not_mem_nil, or_false, not_or]; exact ⟨hc.1, hc.2.2.1, hc.2.2.2⟩) e
theorem zs_done {Q : Option Value → Shared → Prop} (hh : A.handled = none) (Z : ZipSep2 z TI TO i1 i2 fp1 fp2) (D1 : DrawsH prog w i1 fp1 n1 P1 St1) (D2 : DrawsH prog w i2 fp2 n2 P2 St2) (x : ZS z TI TO i1 i2 S St1 St2 i s.heap) (l1 : i ≤ n1) (l2 : i ≤ n2) (le : i = n1 ∨ i = n2)
    (hQ : ∀ h' tk, (∀ c o, c ∉ [z, TO, i1, i2] → s.heap.get? c = some o → h'.get? c = some o) → Q none { s with heap := h', toks := tk }) :
    wpAny (model prog w) A (pyNext (.ref z)) Q E s := by
  rcases x.at_ with ⟨a, u, v, b⟩ | ⟨T, f, oT, a, b, c, d⟩
  · have hTy : s.TypeIs (.ref z) "zip" := ⟨_, a, rfl⟩
    unfold pyNext
    refine wpAny_bind (wpAny_attempt (wpAny_callSpecial?_slot (name := Str.ofString "__next__") hTy F.slot_zip_next (wpAny_call_entry F.slot_zip_next hTy F.entry_zip_next ?_ (F.args_zip_next_1 _))))
    refine zipD2_next_end Z (D1 _ (in1h hh)) (D2 _ (in1h hh)) a x.ti b x.t1 x.t2 l1 l2 le fun h' tk e hk ⟨oe, he, hc⟩ => ?_
    refine wpAny_bind (wpAny_isInstance (T := "StopIteration") (b := true) ⟨oe, he, hc⟩ isSubtype_stop (wpAny_pure (hQ _ tk fun c o hc e => ?_)))
    simp only [List.mem_cons, List.not_mem_nil, or_false, not_or] at hc
    exact hk c o hc.1 hc.2.1 hc.2.2.1 hc.2.2.2 e
  · refine zp_end_held hh Z D1 D2 a b x.ti x.t1 x.t2 l1 l2 le fun h' tk hk => hQ h' tk fun k o hc e => ?_
    simp only [List.mem_cons, List.not_mem_nil, or_false, not_or] at hc
    exact hk k o (by simp only [List.mem_cons, List.not_mem_nil, or_false, not_or]; exact ⟨hc.1, hc.2.2.1, hc.2.2.2⟩) e
/-- the pairs given out so far: new tuples behind lo -/
structure ZG (P1 P2 : Nat → Value → Prop) (lo : Addr) (h : Heap) (as : List Addr) : Prop where
  rise : as.Pairwise (· < ·)
  above : ∀ a ∈ as, lo < a
  pairs : ∀ (j : Nat) (a : Addr), as[j]? = some a → ∃ x y, P1 j x ∧ P2 j y ∧ IsTupOf2 h a x y
theorem ZG.there {lo : Addr} {h : Heap} {as : List Addr} (g : ZG P1 P2 lo h as) {a : Addr} (ha : a ∈ as) : a < h.objs.size := by
  obtain ⟨j, hj⟩ := List.mem_iff_getElem?.mp ha
  obtain ⟨_, _, _, _, e⟩ := g.pairs j a hj
  exact Heap.lt_size e
theorem ZG.keep {lo : Addr} {h h' : Heap} {as : List Addr} (g : ZG P1 P2 lo h as) (hk : ∀ b o, lo < b → h.get? b = some o → h'.get? b = some o) : ZG P1 P2 lo h' as :=
  ⟨g.rise, g.above, fun j a hj => let ⟨x, y, p, q, e⟩ := g.pairs j a hj; ⟨x, y, p, q, hk a _ (g.above a (List.mem_of_getElem? hj)) e⟩⟩
theorem ZG.snoc {lo : Addr} {h h' : Heap} {as : List Addr} (g : ZG P1 P2 lo h as) (hk : ∀ b o, lo < b → h.get? b = some o → h'.get? b = some o) (hl : lo < h.objs.size) {x y : Value} (hx : P1 as.length x) (hy : P2 as.length y) (hn : IsTupOf2 h' h.objs.size x y) : ZG P1 P2 lo h' (as ++ [h.objs.size]) := by
  have g' := g.keep hk
  refine ⟨List.pairwise_append.mpr ⟨g.rise, List.pairwise_singleton _ _, fun a ha b hb => ?_⟩, fun a ha => ?_, fun j b hj => ?_⟩
  · rw [List.mem_singleton.mp hb]; exact g.there ha
  · rcases List.mem_append.mp ha with ha | ha
    · exact g.above a ha
    · rw [List.mem_singleton.mp ha]; exact hl
  · rcases Nat.lt_trichotomy j as.length with h1 | h1 | h1
    · rw [List.getElem?_append_left h1] at hj; exact g'.pairs j b hj
    · subst h1
      have hb : h.objs.size = b := by simpa using hj
      subst hb
      exact ⟨x, y, hx, hy, hn⟩
    · rw [List.getElem?_eq_none (by rw [List.length_append, List.length_singleton]; omega)] at hj; cases hj
end
end LZ
namespace LZ
open PySem PySem.Spec PyProof.Rows PySem.W
section
variable {prog : Program} {w : World} {A : Around} {s : Shared} {R : Result → Shared → Prop} {z TI TO i1 i2 S : Addr} {fp1 fp2 : List Addr} {n1 n2 : Nat} {P1 P2 : Nat → Value → Prop} {St1 St2 : Nat → Heap → Prop}
abbrev LstAt (h : Heap) (S : Addr) (acc : Array Value) (c : Nat) : Prop := h.get? S = some { cls := .type "list", dict := none, data := .seq acc c, slots := #[] }
theorem zp_loop (hh : A.handled = none) (Z : ZipSep2 z TI TO i1 i2 fp1 fp2) (D1 : DrawsH prog w i1 fp1 n1 P1 St1) (D2 : DrawsH prog w i2 fp2 n2 P2 St2) (F : Far z TI TO i1 i2 S fp1 fp2) (n : Nat) (hn : n = min n1 n2) (hz : n ≤ sizeLine) (res : Value) {h₁ : Heap}
    (hR : ∀ h' tk acc c as, (∀ b o, b ≠ S → b ∉ [z, TO, i1, i2] → h₁.get? b = some o → h'.get? b = some o) → LstAt h' S acc c → as.length = n → ZG P1 P2 S h' as → acc.toList = as.map Value.ref → R (.ok (.ret res)) { s with heap := h', toks := tk }) :
    ∀ (k i : Nat) (h : Heap) (tk c : Nat) (acc : Array Value) (as : List Addr), n - i = k → i ≤ n → ZS z TI TO i1 i2 S St1 St2 i h → (∀ b o, b ≠ S → b ∉ [z, TO, i1, i2] → h₁.get? b = some o → h.get? b = some o) →
      LstAt h S acc c → acc.toList = as.map Value.ref → as.length = i → ZG P1 P2 S h as → codeAny (model prog w) A (.builtin "list.extend.loop" ⟨[.ref S, .ref z, res], []⟩) R { s with heap := h, toks := tk } := by
  have far : ∀ a, S < a ∨ a = S → a ∉ [z, TO, i1, i2] := fun a ha => by
    have ge : S ≤ a := by rcases ha with q | q; exact Nat.le_of_lt q; exact Nat.le_of_eq q.symm
    simp only [List.mem_cons, List.not_mem_nil, or_false, not_or]
    exact ⟨Nat.ne_of_gt (Nat.lt_of_lt_of_le F.z ge), Nat.ne_of_gt (Nat.lt_of_lt_of_le F.TO ge), Nat.ne_of_gt (Nat.lt_of_lt_of_le F.i1 ge), Nat.ne_of_gt (Nat.lt_of_lt_of_le F.i2 ge)⟩
  intro k
  induction k with
  | zero =>
    intro i h tk c acc as hk hi x hkeep hS hacc hal hG
    have e1 : i = n := by omega
    refine codeAny_builtin PySem.F.entry_extend_loop (by
      rw [Around.under_plainId PySem.F.plain_extend_loop _]
      show wpAny _ A.in1 (pyNext (.ref z) >>= _) _ _ _
      refine wpAny_bind (zs_done (s := { s with heap := h, toks := tk }) (A := A.in1) (i := i) hh Z D1 D2 x (by omega) (by omega) (by omega) fun h' tk' he => wpAny_pure ?_)
      exact hR h' tk' acc c as (fun b o h1 h2 e => he b o h2 (hkeep b o h1 h2 e)) (he S _ (far S (.inr rfl)) hS) (by omega) (hG.keep fun b o hb e => he b o (far b (.inl hb)) e) hacc)
  | succ k ih =>
    intro i h tk c acc as hk hi x hkeep hS hacc hal hG
    have l1 : i < n1 := by omega
    have l2 : i < n2 := by omega
    have hsz : acc.size = i := by rw [← Array.length_toList, hacc, List.length_map, hal]
    have hSl : S < h.objs.size := Heap.lt_size hS
    refine codeAny_builtin PySem.F.entry_extend_loop (by
      rw [Around.under_plainId PySem.F.plain_extend_loop _]
      show wpAny _ A.in1 (pyNext (.ref z) >>= _) _ _ _
      refine wpAny_bind (zs_item (s := { s with heap := h, toks := tk }) (A := A.in1) hh Z D1 D2 hSl x l1 l2 fun u v h' tk' pu pv x' ht hs hkp => ?_)
      dsimp only at ht hs hkp ⊢
      have hS' : LstAt h' S acc c := hkp S _ (far S (.inr rfl)) hS
      have up : ∀ b o, b ≠ S → h'.get? b = some o → (h'.update S (Obj.mapSeq (·.push (Value.ref h.objs.size)))).get? b = some o := fun b o hb e => (Heap.get?_update_other _ _ (Ne.symm hb)).trans e
      show wpAny _ A.in1 (updateSeq S (·.push (Value.ref h.objs.size)) >>= _) _ _ _
      refine wpAny_bind (wpAny_updateSeq hS' rfl (wpAny_pure ⟨plainId_quiet PySem.F.plain_extend_loop _, ?_⟩) (by rw [hsz]; omega) (by show (acc.push (Value.ref h.objs.size)).size ≤ sizeLine + 1; rw [Array.size_push, hsz]; omega))
      refine ih (i + 1) _ tk' _ (acc.push (Value.ref h.objs.size)) (as ++ [h.objs.size]) (by omega) (by omega) (x'.keep hh D1 D2 F up) (fun b o h1 h2 e => up b o h1 (hkp b o h2 (hkeep b o h1 h2 e))) (Heap.get?_update_self _ hS' rfl) (by rw [Array.toList_push, hacc, List.map_append]; rfl) (by rw [List.length_append, hal]; rfl) ?_
      exact hG.snoc (fun b o hb e => up b o (Nat.ne_of_gt hb) (hkp b o (far b (.inl hb)) e)) hSl (by rw [hal]; exact pu) (by rw [hal]; exact pv) (up _ _ (Nat.ne_of_gt hSl) ht))
theorem zp_hint {E : Value → Shared → Prop} (hT : s.TypeIs (.ref z) "zip") {Q : Bool → Shared → Prop} (h : Q true s) : wpAny (model prog w) A (Builtin.List.listLengthHint (.ref z)) Q E s := by
  unfold Builtin.List.listLengthHint
  refine wpAny_bind (wpAny_specialOf hT zp_nolen ?_)
  wp_delta
  first
    | exact wpAny_bind (wpAny_specialOf hT zp_nohint (wpAny_pure h))
    | (show wpAny _ _ (specialOf (Value.ref z) (Str.ofString "__length_hint__") >>= _) _ _ _; exact wpAny_bind (wpAny_specialOf hT zp_nohint (wpAny_pure h)))
end
end LZ
namespace LZ
open PySem PySem.Spec PyProof.Rows PySem.W
section
variable {prog : Program} {w : World} {A : Around} {E : Value → Shared → Prop} {s : Shared} {z TI TO i1 i2 S : Addr} {fp1 fp2 : List Addr} {n1 n2 : Nat} {P1 P2 : Nat → Value → Prop} {St1 St2 : Nat → Heap → Prop}
theorem zp_extend {R : Result → Shared → Prop} (hh : A.handled = none) (Z : ZipSep2 z TI TO i1 i2 fp1 fp2) (D1 : DrawsH prog w i1 fp1 n1 P1 St1) (D2 : DrawsH prog w i2 fp2 n2 P2 St2) (F : Far z TI TO i1 i2 S fp1 fp2) (hz : min n1 n2 ≤ sizeLine) (res : Value) (c₀ : Nat)
    (q0 : IsZip s.heap z TI TO .none) (q1 : IsTupOf2 s.heap TI (.ref i1) (.ref i2)) {u v : Value} (q2 : IsTupOf2 s.heap TO u v) (q3 : St1 0 s.heap) (q4 : St2 0 s.heap) (hS : LstAt s.heap S #[] c₀)
    (hR : ∀ h' tk acc c as, (∀ b o, b ≠ S → b ∉ [z, TO, i1, i2] → s.heap.get? b = some o → h'.get? b = some o) → LstAt h' S acc c → as.length = min n1 n2 → ZG P1 P2 S h' as → acc.toList = as.map Value.ref → R (.ok (.ret res)) { s with heap := h', toks := tk }) :
    wpAny (model prog w) A.in1 (Builtin.List.listExtendWith (.ref S) (.ref z) res)
      (fun fin s' => match fin with | .done f => R (.ok f) s' | .again c' => c'.quiet = true ∧ codeAny (model prog w) A c' R s') (fun e s' => R (.error e) s') s := by
  have x0 : ZS z TI TO i1 i2 S St1 St2 0 s.heap := ⟨q1, q3, q4, .inl ⟨q0, u, v, q2⟩⟩
  have key : ∀ (h : Heap) (c₁ tk : Nat), (∀ b o, b ≠ S → s.heap.get? b = some o → h.get? b = some o) → LstAt h S #[] c₁ → codeAny (model prog w) A (.builtin "list.extend.loop" ⟨[.ref S, .ref z, res], []⟩) R { s with heap := h, toks := tk } := fun h c₁ tk hk hS₁ =>
    zp_loop (s := s) (h₁ := s.heap) hh Z D1 D2 F _ rfl hz res hR (min n1 n2) 0 h tk c₁ #[] [] (Nat.sub_zero _) (Nat.zero_le _) (x0.keep hh D1 D2 F hk) (fun b o hb _ e => hk b o hb e) hS₁ rfl rfl
      ⟨List.Pairwise.nil, (fun _ ha => nomatch ha), (fun j a hj => by simp at hj)⟩
  have hTy : s.TypeIs (.ref z) "zip" := ⟨_, q0, rfl⟩
  unfold Builtin.List.listExtendWith
  refine wpAny_bind (wpAny_typeOf hTy ?_)
  have e1 : Builtin.List.listSameRef (.ref S) (.ref z) = false := by simp [Builtin.List.listSameRef, Nat.ne_of_gt F.z]
  have e2 : (Value.type "zip" == Value.type "list") = false := by decide
  have e3 : (Value.type "zip" == Value.type "tuple") = false := by decide
  simp only [e1, e2, e3, Bool.or_false, Bool.false_eq_true, if_false]
  refine wpAny_bind (wpAny_pyIter_zip q0 ?_)
  refine wpAny_bind (wpAny_holding (zp_hint hTy ?_))
  refine wpAny_ite_split (fun _ => ?_) (fun _ => wpAny_pure ⟨plainId_quiet PySem.F.plain_extend_loop _, key _ c₀ _ (fun b o _ e => e) hS⟩)
  refine wpAny_bind (wpAny_rule (wpAny_bind ?_))
  show wpAny _ _ (updateSeq S (·.push .none) >>= fun _ => updateSeq S (·.pop)) _ _ _
  refine wpAny_bind (wpAny_updateSeq hS rfl ?_)
  have hS₂ := Heap.get?_update_self (Obj.mapSeq (·.push Value.none)) hS rfl
  refine wpAny_updateSeq (hz := by seq_fits) hS₂ rfl (wpAny_pure ⟨plainId_quiet PySem.F.plain_extend_loop _, key _ _ _ (fun b o hb e => ?_) (Heap.get?_update_self (Obj.mapSeq (·.pop)) hS₂ rfl)⟩)
  exact (Heap.get?_update_other _ _ (Ne.symm hb)).trans ((Heap.get?_update_other _ _ (Ne.symm hb)).trans e)
/-- list(z) of a fresh zip z -/
theorem call_list_zip {Q : Value → Shared → Prop} (hh : A.handled = none) (Z : ZipSep2 z TI TO i1 i2 fp1 fp2) (D1 : DrawsH prog w i1 fp1 n1 P1 St1) (D2 : DrawsH prog w i2 fp2 n2 P2 St2) (F : Far z TI TO i1 i2 s.heap.objs.size fp1 fp2) (hz : min n1 n2 ≤ sizeLine)
    (q0 : IsZip s.heap z TI TO .none) (q1 : IsTupOf2 s.heap TI (.ref i1) (.ref i2)) {u v : Value} (q2 : IsTupOf2 s.heap TO u v) (q3 : St1 0 s.heap) (q4 : St2 0 s.heap)
    (hQ : ∀ h' tk acc c as, (∀ b o, b ∉ [z, TO, i1, i2] → s.heap.get? b = some o → h'.get? b = some o) → LstAt h' s.heap.objs.size acc c → as.length = min n1 n2 → ZG P1 P2 s.heap.objs.size h' as → acc.toList = as.map Value.ref → Q (.ref s.heap.objs.size) { s with heap := h', toks := tk }) :
    wpAny (model prog w) A (call (.type "list") [.ref z]) Q E s := by
  refine callType_codes (Q₁ := fun obj s₁ => obj = .ref s.heap.objs.size ∧ s₁ = { s with heap := s.heap.push { cls := .type "list", data := .seq #[] } }) PySem.F.called_list (PySem.F.typeCall_list_1 _) PySem.F.entry_list_init (code_list_new _ ⟨rfl, rfl⟩) fun obj s₁ h₁ => ?_
  obtain ⟨rfl, rfl⟩ := h₁
  have up : ∀ b o, s.heap.get? b = some o → (s.heap.push { cls := .type "list", data := .seq #[] }).get? b = some o := fun b o e => Heap.get?_push_of_some _ e
  have hS : LstAt (s.heap.push { cls := .type "list", data := .seq #[] }) s.heap.objs.size #[] 0 := Heap.get?_push_size _ rfl
  refine ⟨⟨_, hS, rfl⟩, PySem.F.args_list_init_2 _ _, ?_⟩
  show wpAny _ _ (do let old ← Builtin.List.listItems (.ref s.heap.objs.size); Builtin.List.listUpdate (.ref s.heap.objs.size) (fun _ => #[]); letGo old.toList.reverse; Builtin.List.listExtendWith (.ref s.heap.objs.size) (.ref z) .none) _ _ { s with heap := s.heap.push { cls := .type "list", data := .seq #[] } }
  refine wpAny_bind (by
    unfold Builtin.List.listItems
    refine wpAny_bind (wpAny_seqItems hS rfl (wpAny_pure ?_))
    show wpAny _ _ (updateSeq s.heap.objs.size (fun _ => #[]) >>= fun _ => letGo (#[] : Array Value).toList.reverse >>= fun _ => Builtin.List.listExtendWith (.ref s.heap.objs.size) (.ref z) .none) _ _ _
    refine wpAny_bind (wpAny_updateSeq hS rfl (wpAny_bind (wpAny_letGo ?_)))
    have hS₂ := Heap.get?_update_self (Obj.mapSeq (fun _ => (#[] : Array Value))) hS rfl
    have oth : ∀ b o, s.heap.get? b = some o → ((s.heap.push { cls := .type "list", data := .seq #[] }).update s.heap.objs.size (Obj.mapSeq (fun _ => (#[] : Array Value)))).get? b = some o :=
      fun b o e => (Heap.get?_update_other _ _ (Nat.ne_of_gt (Heap.lt_size e))).trans (up b o e)
    refine zp_extend (A := A.in1) (in1h hh) Z D1 D2 F hz .none _ (oth _ _ q0) (oth _ _ q1) (oth _ _ q2) ((D1 _ hh).frame _ _ _ q3 fun b _ o e => oth b o e) ((D2 _ hh).frame _ _ _ q4 fun b _ o e => oth b o e) hS₂ fun h' tk acc c as hk hS' hl hG hacc => ?_
    exact ⟨rfl, hQ h' tk acc c as (fun b o hb e => hk b o (Nat.ne_of_lt (Heap.lt_size e)) hb (oth b o e)) hS' hl hG hacc⟩)
end
end LZ
namespace LZ
open PySem PySem.Spec PyProof.Rows L2
/-- the pairs, tracked at their addresses -/
def putP : Hp → List Addr → List (V × V) → Hp
  | H, a :: as, p :: ps => putP (upd H a (.tup [p.1, p.2])) as ps
  | H, _, _ => H
theorem putP_off {b : Addr} : ∀ (as : List Addr) (ps : List (V × V)) (H : Hp), b ∉ as → putP H as ps b = H b
  | [], _, _, _ => rfl
  | _ :: _, [], _, _ => rfl
  | a :: as, p :: ps, H, h => (putP_off as ps _ fun q => h (List.mem_cons_of_mem _ q)).trans (upd_ne fun q => h (q ▸ List.mem_cons_self))
theorem putP_at : ∀ (as : List Addr) (ps : List (V × V)) (H : Hp) (j : Nat) (a : Addr), as.length = ps.length → as.Nodup → as[j]? = some a → ∃ p, ps[j]? = some p ∧ putP H as ps a = some (.tup [p.1, p.2])
  | [], _, _, j, a, _, _, h => by cases h
  | _ :: _, [], _, _, _, h, _, _ => by cases h
  | b :: as, p :: ps, H, 0, a, _, hn, h => by
    cases Option.some.inj h
    exact ⟨p, rfl, (putP_off as ps _ (List.nodup_cons.mp hn).1).trans upd_same⟩
  | b :: as, p :: ps, H, j + 1, a, hl, hn, h => putP_at as ps _ j a (Nat.succ.inj hl) (List.nodup_cons.mp hn).2 h
section
variable {X : Cx}
theorem zp_laid {pins : List (Addr × Obj)} {σ : L2.St} {H : Hp} {s : Shared} {h' : Heap} {tk c : Nat} {vs ws : List V} {us ts : List Value} {acc : Array Value} {as : List Addr} {p : Addr} (I : Inv X pins σ H s) (hz : as.length ≤ sizeLine) (r1 : Vals vs us) (r2 : Vals ws ts)
    (hk : ∀ b o, s.heap.get? b = some o → h'.get? b = some o) (hp : s.heap.objs.size ≤ p) (hS : LstAt h' p acc c) (hl : as.length = min us.length ts.length) (hG : ZG (fun i v => us.toArray[i]? = some v) (fun i v => ts.toArray[i]? = some v) p h' as) (hacc : acc.toList = as.map Value.ref) :
    Inv X pins σ (upd (putP H as (vs.zip ws)) p (.lst (as.map V.ref))) { s with heap := h', toks := tk } := by
  have lz : as.length = (vs.zip ws).length := by rw [List.length_zip, r1.length, r2.length]; exact hl
  have hpn : p ∉ as := fun q => Nat.lt_irrefl _ (hG.above _ q)
  have nd : as.Nodup := hG.rise.imp fun {a b} (q : a < b) => Nat.ne_of_lt q
  have low : ∀ b o, s.heap.get? b = some o → b ∉ as ∧ b ≠ p := fun b o e => ⟨fun q => absurd (Heap.lt_size e) (Nat.not_lt.mpr (Nat.le_of_lt (Nat.lt_of_le_of_lt hp (hG.above b q)))), Nat.ne_of_lt (Nat.lt_of_lt_of_le (Heap.lt_size e) hp)⟩
  have off : ∀ b, b ∉ as → b ≠ p → upd (putP H as (vs.zip ws)) p (.lst (as.map V.ref)) b = H b := fun b q1 q2 => by rw [upd_ne q2, putP_off as _ _ q1]
  have fresh : ∀ b, b ∈ as ∨ b = p → H b = none := fun b q => I.hok.fresh (by rcases q with q | q; exact Nat.le_trans hp (Nat.le_of_lt (hG.above b q)); exact q ▸ hp)
  have kp : ∀ b u, H b = some u → upd (putP H as (vs.zip ws)) p (.lst (as.map V.ref)) b = some u := fun b u e => by
    rw [off b (fun q => by rw [fresh b (.inl q)] at e; cases e) (fun q => by rw [fresh b (.inr q)] at e; cases e)]; exact e
  refine I.call' (ch := []) rfl ⟨fun b o q _ _ _ => hk b o q, fun b o q _ _ _ => ⟨o.slots, hk b o q⟩, fun b o q n _ => ?_, fun b o q _ => ⟨o, hk b o q⟩, fun b xs q => kp b _ q, fun b o u q => kp b _ q, fun b ps q => ⟨#[], by rw [kp b _ q]; simp⟩⟩ (fun b u q => ?_) I.bare fun b z => by simp at z
  · obtain ⟨z1, z2⟩ := low b o q; exact (off b z1 z2).trans n
  · by_cases hbp : b = p
    · rw [hbp] at q ⊢; rw [upd_same] at q; cases q
      refine ⟨by rw [List.length_map]; exact hz, acc.toList, c, by rw [hacc]; exact LiI.vals_refs as, ?_⟩
      rw [Array.toArray_toList]; exact hS
    · by_cases hb : b ∈ as
      · obtain ⟨j, ej⟩ := List.mem_iff_getElem?.mp hb
        obtain ⟨pr, e1, e2⟩ := putP_at as (vs.zip ws) H j b lz nd ej
        rw [upd_ne hbp, e2] at q; cases q
        obtain ⟨x, y, px, py, et⟩ := hG.pairs j b ej
        obtain ⟨g1, g2⟩ := List.getElem?_zip_eq_some.mp e1
        obtain ⟨x', f1, k1⟩ := r1.get g1
        obtain ⟨y', f2, k2⟩ := r2.get g2
        have ex : x' = x := Option.some.inj (f1.symm.trans (by simpa using px))
        have ey : y' = y := Option.some.inj (f2.symm.trans (by simpa using py))
        subst ex ey
        exact ⟨by show 2 ≤ sizeLine; decide, [x', y'], .cons k1 (.cons k2 .nil), ⟨_, et, rfl, _, rfl⟩⟩
      · rw [off b hb hbp] at q
        exact (I.hok b u q).stay (fun d v _ y => hk d v y) (fun d y => kp d _ y) fun d xs y => kp d _ y
end
end LZ
namespace F
open PySem PySem.Spec PyProof.Rows L2 LZ
section
variable {K : PySem.W.Frag}
theorem zp_rep : ∀ (as : List Addr) (vs ws : List V) (xs ys : List D) (S : List OS) (g : Gw) (H : Hp), StOk K S g H → RepL K g.F g.θ vs xs → RepL K g.F g.θ ws ys → as.length = (vs.zip ws).length → as.Nodup → (∀ a ∈ as, H a = none) →
    ∃ g', StOk K S g' (putP H as (vs.zip ws)) ∧ Grow g H g' (putP H as (vs.zip ws)) ∧ RepL K g'.F g'.θ (as.map V.ref) (zipD xs ys)
  | [], vs, ws, xs, ys, S, g, H, ok, r1, r2, hl, _, _ => by
    have e : zipD xs ys = [] := by
      have l1 := r1.length; have l2 := r2.length
      have h : (zipD xs ys).length = 0 := by unfold zipD; rw [List.length_map, List.length_zip]; rw [List.length_nil, List.length_zip] at hl; omega
      exact List.length_eq_zero_iff.mp h
    rw [e]
    exact ⟨g, ok, .refl, .nil⟩
  | a :: as, [], _, _, _, _, _, _, _, _, _, hl, _, _ => by simp at hl
  | a :: as, _ :: _, [], _, _, _, _, _, _, _, _, hl, _, _ => by simp at hl
  | a :: as, v :: vs, w :: ws, _, _, S, g, H, ok, .cons r1 q1, .cons r2 q2, hl, hn, hH => by
    obtain ⟨ok2, gr2⟩ := ok.laid (o := .tup [v, w]) (hH a List.mem_cons_self)
    have hn' := List.nodup_cons.mp hn
    obtain ⟨g', ok3, gr3, rl⟩ := zp_rep as vs ws _ _ S _ _ ok2 (gr2.repL q1) (gr2.repL q2) (by simpa using hl) hn'.2 fun b hb => (upd_ne (fun q : b = a => hn'.1 (by rw [← q]; exact hb))).trans (hH b (List.mem_cons_of_mem _ hb))
    exact ⟨g', ok3, gr2.trans gr3, .cons (gr3.rep (.tup (SqT.of upd_same) (gr2.repL (.cons r1 (.cons r2 .nil))))) rl⟩
end
section
variable {X : Cx} {E : XK}
theorem nat_far {N M a b : Nat} (e : M = N + 5) (h : a < N) (k : b < N) : Far (N + 4) (N + 2) (N + 3) N (N + 1) M (N :: [a]) ((N + 1) :: [b]) :=
  ⟨by show (N + 4 : Nat) < M; omega, by show (N + 2 : Nat) < M; omega, by show (N + 3 : Nat) < M; omega, by show (N : Nat) < M; omega, by show (N + 1 : Nat) < M; omega, by simp only [List.mem_cons, List.not_mem_nil, or_false, not_or]; constructor <;> (intro (q : (_ : Nat) = _); omega), by simp only [List.mem_cons, List.not_mem_nil, or_false, not_or]; constructor <;> (intro (q : (_ : Nat) = _); omega)⟩
theorem nat_off {N b : Nat} (h : b < N) : b ∉ [N + 4, N + 3, N, N + 1] := by
  simp only [List.mem_cons, List.not_mem_nil, or_false, not_or]
  omega
structure Src (P : Program) (w : World) (h : Heap) (v : Value) (a : Addr) (us : List Value) (o : Obj) (Hh : Heap → Prop) (St : Addr → Nat → Heap → Prop) : Prop where
  ref : v = .ref a
  lt : a < h.objs.size
  beg : Begins v o Hh
  now : Hh h
  dr : ∀ it, a ≠ it → DrawsH P w it [it, a] us.length (fun i v => us.toArray[i]? = some v) (St it)
  zero : ∀ it h', h'.get? it = some o → Hh h' → St it 0 h'
theorem src_of {pins : List (Addr × Obj)} {σ : L2.St} {H : Hp} {s : Shared} {S : List OS} {g : Gw} {v : V} {u : Value} {d : D} {xs : List D} (I : Inv X pins σ H s) (ok : StOk X.K S g H) (r : Rep X.K g.F g.θ v d) (rv : RelV v u) (e : seqD d = some xs) :
    ∃ a vs us o Hh St, RepL X.K g.F g.θ vs xs ∧ Vals vs us ∧ vs.length ≤ sizeLine ∧ Src X.prog X.w s.heap u a us o Hh St := by
  cases d with
  | tup zs =>
    cases Option.some.inj e
    obtain ⟨a, vs, rfl, sq, rl⟩ := rep_ref r
    obtain ⟨us, r1, pl, hz⟩ := I.tuple (SqT.sub ok.sub sq)
    cases rv
    refine ⟨a, vs, us, _, _, fun it i h => h.IsTupleIter it a i ∧ h.IsTuple a us.toArray, rl, r1, hz, rfl, let ⟨_, e, _⟩ := pl; Heap.lt_size e, begins_tuple a us.toArray, pl, fun it hne A hh => ?_, fun it h' e1 e2 => ⟨⟨_, e1, rfl, rfl⟩, e2⟩⟩
    have := Draws.tuple (prog := X.prog) (w := X.w) (A := A) hh it a hne us.toArray
    rw [List.size_toArray] at this
    exact this
  | lst zs =>
    cases Option.some.inj e
    obtain ⟨a, vs, rfl, sq, rl⟩ := rep_refL r
    obtain ⟨us, r1, pl, hz⟩ := I.list (SqL.of (K := X.K) (ok.sub _ _ sq))
    cases rv
    refine ⟨a, vs, us, _, _, fun it i h => h.IsListIter it a i ∧ h.IsList a us.toArray, rl, r1, hz, rfl, pl.lt, begins_list a us.toArray, pl.isList, fun it hne A hh => ?_, fun it h' e1 e2 => ⟨⟨_, e1, rfl, rfl⟩, e2⟩⟩
    have := Draws.list (prog := X.prog) (w := X.w) (A := A) hh it a hne us.toArray
    rw [List.size_toArray] at this
    exact this
  | _ => cases e
/-- list(zip(a, b)) -/
def lzM : List D → M (List D)
  | [d, e] => match seqD d, seqD e with
    | some xs, some ys => .ret (zipD xs ys)
    | _, _ => .bad
  | _ => .bad
def nLZ (mas : Ev → M (List D)) : Ev → M (List D) := fun ρ => mas ρ >>= lzM
theorem rn_listZip {a b : Expr} {mas : Ev → M (List D)} {p1 p2 pos pos2 : Pos} (hc : X.calm = true) (ha : RA X E [a, b] mas) (hg : Gl X "list") (hm : X.mg "list" = none) (hg2 : Gl X "zip") (hm2 : X.mg "zip" = none)
    (hs : starEach [a, b] X.env = (false, eval a X.env) :: starEach [b] X.env := by rfl) (hpl : (backTo pos2 (starEach [b] X.env)).any (·.1) = false := by rfl)
    (hs1 : starEach [.Call (.Name "zip" p2) [a, b] [] pos2] X.env = (false, eval (.Call (.Name "zip" p2) [a, b] [] pos2) X.env) :: starEach [] X.env := by rfl) :
    RN X E (.Call (.Name "list" p1) [.Call (.Name "zip" p2) [a, b] [] pos2] [] pos) (nLZ mas) := by
  refine ⟨fun pins s σ H Q I ⟨g, S, ρ, L, ok, en, h⟩ => ?_⟩
  have q : tA X.K X.mg E mas σ H (fun vs H1 => ∃ g1 S1 ds, Grow g H g1 H1 ∧ StOk X.K S1 g1 H1 ∧ RepL X.K g1.F g1.θ vs ds ∧ wp (lzM ds) S1 (NP X.K g H Q) (XP X.K X.mg g H E)) :=
    ⟨g, S, ρ, L, ok, en, wp_mono (wp_bind.mp h) (fun ds S1 h1 g1 H1 v gr ok1 r => ⟨g1, S1, ds, gr, ok1, r, h1⟩) fun _ _ z => z⟩
  refine Call_ (ld_blt I hg hm PyProof.Rows.boot_list (PyProof.Rows.callWith_type1 ?_ hs1 rfl))
  rw [hs1]
  show wpAny _ _ (spliced ((false, eval (.Call (.Name "zip" p2) [a, b] [] pos2) X.env) :: backTo pos (starEach [] X.env))) _ _ s
  refine Calls.spliced_cons (Call_ (ld_blt I hg2 hm2 PyProof.Rows.boot_zip (PyProof.Rows.callWith_type1 (thn (ha.run pos2 pins s σ H _ I q) fun us s1 ⟨vs, H1, I1, r1, g1, S1, ds, gr, ok1, rl, h1⟩ => ?_) hs hpl)))
  have two : ∃ d e xs ys, ds = [d, e] ∧ seqD d = some xs ∧ seqD e = some ys := by
    unfold lzM at h1
    split at h1
    · rename_i d e
      split at h1
      · rename_i xs ys e1 e2
        exact ⟨d, e, xs, ys, rfl, e1, e2⟩
      · exact h1.elim
    · exact h1.elim
  obtain ⟨d, e, xs, ys, rfl, e1, e2⟩ := two
  have h1 : wp (M.ret (zipD xs ys)) S1 (NP X.K g H Q) (XP X.K X.mg g H E) := by
    unfold lzM at h1
    dsimp only at h1
    rw [e1, e2] at h1
    exact h1
  obtain ⟨v, w, rfl, rv, rw_⟩ := repL_two rl
  obtain ⟨u1, u2, rfl, k1, k2⟩ : ∃ u1 u2, us = [u1, u2] ∧ RelV v u1 ∧ RelV w u2 := by
    cases r1 with
    | cons r rr => cases rr with
      | cons r' rr => cases rr; exact ⟨_, _, rfl, r, r'⟩
  obtain ⟨a1, vs1, us1, o1, Hh1, St1, rl1, rr1, hz1, src1⟩ := src_of I1 ok1 rv k1 e1
  obtain ⟨a2, vs2, us2, o2, Hh2, St2, rl2, rr2, hz2, src2⟩ := src_of I1 ok1 rw_ k2 e2
  have hh := I1.ok.hd hc
  refine zip_begins2 src1.beg src2.beg src1.now src2.now fun h' y0 y1 y2 y3 y4 y5 y6 => Calls.spliced_nil ?_
  have b1 : ∀ b ∈ [a1], b < s1.heap.objs.size := fun b hb => by rw [List.mem_singleton.mp hb]; exact src1.lt
  have b2 : ∀ b ∈ [a2], b < s1.heap.objs.size := fun b hb => by rw [List.mem_singleton.mp hb]; exact src2.lt
  have Z := zip_sep2 (N := s1.heap.objs.size) b1 b2
  have l1 := src1.lt
  have l2 := src2.lt
  have lu1 : vs1.length = us1.length := rr1.length
  have lu2 : vs2.length = us2.length := rr2.length
  refine call_list_zip (s := { s1 with heap := h' }) hh Z (src1.dr _ (Nat.ne_of_lt l1)) (src2.dr _ (Nat.ne_of_lt (Nat.lt_succ_of_lt l2))) (nat_far y5 l1 l2) (Nat.le_trans (Nat.min_le_left _ _) (lu1 ▸ hz1)) y0 y1 y2 (src1.zero _ _ y3 (src1.beg.keeps _ _ src1.now y6)) (src2.zero _ _ y4 (src2.beg.keeps _ _ src2.now y6)) fun h2 tk acc c as hk hS hl hG hacc => ?_
  have up : ∀ b o, s1.heap.get? b = some o → h2.get? b = some o := fun b o e => hk b o (nat_off (Heap.lt_size e)) (y6 b o e)
  have hp : s1.heap.objs.size ≤ h'.objs.size := by rw [y5]; exact Nat.le_add_right _ _
  have J := zp_laid (tk := tk) (p := h'.objs.size) I1 (by rw [hl]; exact Nat.le_trans (Nat.min_le_left _ _) (lu1 ▸ hz1)) rr1 rr2 up hp hS hl hG hacc
  have nd : as.Nodup := hG.rise.imp fun {a b} (q : a < b) => Nat.ne_of_lt q
  have hpn : h'.objs.size ∉ as := fun q => Nat.lt_irrefl _ (hG.above _ q)
  obtain ⟨g2, ok2, gr2, rl'⟩ := zp_rep as vs1 vs2 xs ys S1 g1 H1 ok1 rl1 rl2 (by rw [List.length_zip, lu1, lu2]; exact hl) nd fun b hb => I1.hok.fresh (Nat.le_trans hp (Nat.le_of_lt (hG.above b hb)))
  have hn : putP H1 as (vs1.zip vs2) h'.objs.size = none := (putP_off as _ _ hpn).trans (I1.hok.fresh hp)
  obtain ⟨ok3, gr3, hF, hθ⟩ := ok2.made (o := .lst (as.map V.ref)) hn
  have grA := gr.trans (gr2.trans gr3)
  exact ⟨.ref h'.objs.size, _, J, rfl, h1 g2 _ h'.objs.size _ grA ok3 (gr.dom _ (gr2.dom _ hn)) upd_same hF hθ rl'⟩
end
end F
namespace F
open PySem PySem.Spec PyProof.Rows L2
section
variable {X : Cx} {E : XK}
/-- 0, c, 2 c, .. below b -/
def stepD (b c : Int) : List D := (List.range ((b + c - 1) / c).toNat).map fun i => .int ((i : Nat) * c)
def tupRg3 : List D → M D
  | [.int a, .int b, .int c] => if a = 0 ∧ 0 ≤ b ∧ b ≤ 16777216 ∧ 1 ≤ c ∧ c ≤ 16777216 then .ret (.tup (stepD b c)) else .bad
  | _ => .bad
def eTR3 (mas : Ev → M (List D)) : Ev → M D := fun ρ => mas ρ >>= tupRg3
theorem re_tupRg3 {a b c : Expr} {mas : Ev → M (List D)} {p1 p2 pos pos2 : Pos} (hcm : X.calm = true) (ha : RA X E [a, b, c] mas) (hg : Gl X "tuple") (hm : X.mg "tuple" = none) (hg2 : Gl X "range") (hm2 : X.mg "range" = none)
    (hs : starEach [a, b, c] X.env = (false, eval a X.env) :: starEach [b, c] X.env := by rfl) (hpl : (backTo pos2 (starEach [b, c] X.env)).any (·.1) = false := by rfl)
    (hs1 : starEach [.Call (.Name "range" p2) [a, b, c] [] pos2] X.env = (false, eval (.Call (.Name "range" p2) [a, b, c] [] pos2) X.env) :: starEach [] X.env := by rfl) :
    RE X E (.Call (.Name "tuple" p1) [.Call (.Name "range" p2) [a, b, c] [] pos2] [] pos) (eTR3 mas) := by
  refine ⟨fun pins s σ H Q I ⟨g, S, ρ, L, ok, en, h⟩ => ?_⟩
  have q : tA X.K X.mg E mas σ H (fun vs H1 => ∃ g1 S1 ds, Grow g H g1 H1 ∧ StOk X.K S1 g1 H1 ∧ RepL X.K g1.F g1.θ vs ds ∧ wp (tupRg3 ds) S1 (VP X.K g H Q) (XP X.K X.mg g H E)) :=
    ⟨g, S, ρ, L, ok, en, wp_mono (wp_bind.mp h) (fun ds S1 h1 g1 H1 v gr ok1 r => ⟨g1, S1, ds, gr, ok1, r, h1⟩) fun _ _ z => z⟩
  refine Call_ (ld_blt I hg hm PyProof.Rows.boot_tuple (PyProof.Rows.callWith_type1 ?_ hs1 rfl))
  rw [hs1]
  show wpAny _ _ (spliced ((false, eval (.Call (.Name "range" p2) [a, b, c] [] pos2) X.env) :: backTo pos (starEach [] X.env))) _ _ s
  refine Calls.spliced_cons (Call_ (ld_blt I hg2 hm2 PyProof.Rows.boot_range (PyProof.Rows.callWith_type1 (thn (ha.run pos2 pins s σ H _ I q) fun us s1 ⟨vs, H1, I1, r1, g1, S1, ds, gr, ok1, rl, h1⟩ => ?_) hs hpl)))
  have thr : ∃ i j k, ds = [.int i, .int j, .int k] := by
    unfold tupRg3 at h1
    split at h1
    · exact ⟨_, _, _, rfl⟩
    · exact h1.elim
  obtain ⟨i, j, k, rfl⟩ := thr
  obtain ⟨⟨ei, h0, h2, h3, h4⟩, hw⟩ := wp_guard h1
  subst ei
  obtain ⟨t, u, v, rfl⟩ : ∃ t u v, us = [Value.int 0 t, .int j u, .int k v] := by
    cases rl with
    | cons a1 rl => cases rl with
      | cons a2 rl => cases rl with
        | cons a3 rl =>
          cases rl; cases a1; cases a2; cases a3
          cases r1 with
          | cons b1 r1 => cases r1 with
            | cons b2 r1 => cases r1 with
              | cons b3 r1 =>
                cases r1
                obtain ⟨t, rfl⟩ := b1
                obtain ⟨u, rfl⟩ := b2
                obtain ⟨v, rfl⟩ := b3
                exact ⟨t, u, v, rfl⟩
  refine call_range_3 (by omega) (Calls.spliced_nil ?_)
  have I2 : Inv X pins σ H1 { s1 with heap := s1.heap.push { cls := .type "range", data := .fields #[.int 0 t, .int j u, .int k v] } } := I1.kept (t' := s1.toks) fun b ob q => Heap.get?_push_of_some _ q
  have e0 : 0 ≤ (j + k - 1) / k := Int.ediv_nonneg (by omega) (by omega)
  have e1 : (j + k - 1) / k ≤ 16777216 := by
    by_cases hj : j = 0
    · subst hj
      rw [Int.ediv_eq_zero_of_lt (by omega) (by omega)]; omega
    · have : (j + k - 1) / k ≤ j := by
        refine Int.ediv_le_of_le_mul (by omega) ?_
        have : (j - 1) * 1 ≤ (j - 1) * k := Int.mul_le_mul_of_nonneg_left h3 (by omega)
        have e : j * k = (j - 1) * k + k := by rw [Int.sub_mul]; omega
        omega
      omega
  refine call_tuple_range (n := ((j + k - 1) / k).toNat) (s := { s1 with heap := s1.heap.push { cls := .type "range", data := .fields #[.int 0 t, .int j u, .int k v] } }) (I1.ok.hd hcm) (IsRange.new _ _ _ _ _ _ _) ?_ (by rw [rangeSize_pos h3 h0]; omega) (by omega) fun h' tk acc hk hi => ?_
  · unfold Builtin.Range.small
    rw [rangeSize_pos h3 h0]
    simp only [Builtin.Range.rangeFitsLong, Bool.and_eq_true, Bool.or_eq_true, decide_eq_true_eq, beq_iff_eq]
    refine ⟨⟨⟨⟨?_, ?_⟩, ?_⟩, ?_⟩, .inr ?_⟩
    · omega
    · omega
    · omega
    · omega
    · rw [if_pos (by omega)]
      simp only [Bool.and_eq_true, decide_eq_true_eq]
      omega
  have I3 : Inv X pins σ H1 { s1 with heap := h', toks := tk } := I2.kept hk
  have el : acc.toList.length = ((j + k - 1) / k).toNat := by rw [Array.length_toList]; exact hi.1
  have hv : Vals ((List.range acc.toList.length).map fun i => V.int ((i : Nat) * k)) acc.toList := vals_of_get acc.toList _ fun n x hx => by
    obtain ⟨t, rfl⟩ := hi.2 n x (by rw [← hx, Array.getElem?_toList])
    exact ⟨t, by simp⟩
  rw [el] at hv
  have hn : H1 h'.objs.size = none := I3.hok.fresh (Nat.le_refl _)
  obtain ⟨ok2, gr2⟩ := ok1.laid (o := .tup ((List.range ((j + k - 1) / k).toNat).map fun i => V.int ((i : Nat) * k))) hn
  refine ⟨.ref h'.objs.size, _, I3.laid (t' := tk) (fun c o e => Heap.get?_push_of_some _ e) (Nat.le_refl _) (show ObjOk X.prog X.w _ _ _ (.tup ((List.range ((j + k - 1) / k).toNat).map fun i => V.int ((i : Nat) * k))) from ⟨?_, acc.toList, hv, ?_⟩), rfl, hw _ _ _ (gr.trans gr2) ok2 (.tup (SqT.of upd_same) ?_)⟩
  · rw [List.length_map, List.length_range, sizeLine_eq]; omega
  · rw [Array.toArray_toList]; exact IsTup.new _ _
  · unfold stepD
    have := ints_repL (K := X.K) (F := upd g1.F h'.objs.size (.tup ((List.range ((j + k - 1) / k).toNat).map fun i => V.int ((i : Nat) * k)))) (θ := g1.θ) ((List.range ((j + k - 1) / k).toNat).map fun i => ((i : Nat) : Int) * k)
    rw [List.map_map, List.map_map] at this
    exact this
end
end F
namespace Hd
open PySem PySem.Spec PyProof.Rows L2
def top (i : Nat) : Stmt := PySem.Challenge.pw_surelywrong_k34_segments_and_layers.main.body.getD i (.Pass ⟨0, 0, 0, 0⟩)
abbrev s_is_integer : Stmt := top 7
def d_is_integer : He.DefD := ⟨("is_integer", none), "is_integer", "is_integer", defArgs s_is_integer, defBody s_is_integer, defScope s_is_integer, [], []⟩
abbrev s_is_number : Stmt := top 8
def d_is_number : He.DefD := ⟨("is_number", none), "is_number", "is_number", defArgs s_is_number, defBody s_is_number, defScope s_is_number, [], []⟩
abbrev s_is_name : Stmt := top 9
def d_is_name : He.DefD := ⟨("is_name", none), "is_name", "is_name", defArgs s_is_name, defBody s_is_name, defScope s_is_name, [], []⟩
abbrev s_is_kind : Stmt := top 10
def d_is_kind : He.DefD := ⟨("is_kind", none), "is_kind", "is_kind", defArgs s_is_kind, defBody s_is_kind, defScope s_is_kind, [], []⟩
abbrev s_is_pair : Stmt := top 11
def d_is_pair : He.DefD := ⟨("is_pair", none), "is_pair", "is_pair", defArgs s_is_pair, defBody s_is_pair, defScope s_is_pair, [], []⟩
abbrev s_is_sort : Stmt := top 12
def d_is_sort : He.DefD := ⟨("is_sort", none), "is_sort", "is_sort", defArgs s_is_sort, defBody s_is_sort, defScope s_is_sort, [], []⟩
abbrev s_is_row : Stmt := top 13
def d_is_row : He.DefD := ⟨("is_row", none), "is_row", "is_row", defArgs s_is_row, defBody s_is_row, defScope s_is_row, [], []⟩
abbrev s_is_gaps : Stmt := top 14
def d_is_gaps : He.DefD := ⟨("is_gaps", none), "is_gaps", "is_gaps", defArgs s_is_gaps, defBody s_is_gaps, defScope s_is_gaps, [], []⟩
abbrev s_want : Stmt := top 16
def d_want : He.DefD := ⟨("want", none), "want", "want", defArgs s_want, defBody s_want, defScope s_want, [.int (-1)], []⟩
abbrev s_want_rows : Stmt := top 17
def d_want_rows : He.DefD := ⟨("want_rows", none), "want_rows", "want_rows", defArgs s_want_rows, defBody s_want_rows, defScope s_want_rows, [], []⟩
abbrev s_want_text : Stmt := top 18
def d_want_text : He.DefD := ⟨("want_text", none), "want_text", "want_text", defArgs s_want_text, defBody s_want_text, defScope s_want_text, [], []⟩
abbrev s_is_row_of : Stmt := top 19
def d_is_row_of : He.DefD := ⟨("is_row_of", none), "is_row_of", "is_row_of", defArgs s_is_row_of, defBody s_is_row_of, defScope s_is_row_of, [], []⟩
abbrev s_want_row : Stmt := top 20
def d_want_row : He.DefD := ⟨("want_row", none), "want_row", "want_row", defArgs s_want_row, defBody s_want_row, defScope s_want_row, [], []⟩
abbrev s_are_carets : Stmt := top 21
def d_are_carets : He.DefD := ⟨("are_carets", none), "are_carets", "are_carets", defArgs s_are_carets, defBody s_are_carets, defScope s_are_carets, [], []⟩
abbrev s_want_carets : Stmt := top 22
def d_want_carets : He.DefD := ⟨("want_carets", none), "want_carets", "want_carets", defArgs s_want_carets, defBody s_want_carets, defScope s_want_carets, [], []⟩
abbrev s_segments_in : Stmt := top 24
def d_segments_in : He.DefD := ⟨("segments_in", none), "segments_in", "segments_in", defArgs s_segments_in, defBody s_segments_in, defScope s_segments_in, [], []⟩
abbrev s_layers_in : Stmt := top 25
def d_layers_in : He.DefD := ⟨("layers_in", none), "layers_in", "layers_in", defArgs s_layers_in, defBody s_layers_in, defScope s_layers_in, [], []⟩
abbrev s_bounds_around : Stmt := top 26
def d_bounds_around : He.DefD := ⟨("bounds_around", none), "bounds_around", "bounds_around", defArgs s_bounds_around, defBody s_bounds_around, defScope s_bounds_around, [], []⟩
abbrev s_segment_of : Stmt := top 27
def d_segment_of : He.DefD := ⟨("segment_of", none), "segment_of", "segment_of", defArgs s_segment_of, defBody s_segment_of, defScope s_segment_of, [], []⟩
abbrev s_layer_of : Stmt := top 28
def d_layer_of : He.DefD := ⟨("layer_of", none), "layer_of", "layer_of", defArgs s_layer_of, defBody s_layer_of, defScope s_layer_of, [], []⟩
abbrev s_rows_of_layer : Stmt := top 29
def d_rows_of_layer : He.DefD := ⟨("rows_of_layer", none), "rows_of_layer", "rows_of_layer", defArgs s_rows_of_layer, defBody s_rows_of_layer, defScope s_rows_of_layer, [], []⟩
abbrev s__law_feed : Stmt := top 31
def d__law_feed : He.DefD := ⟨("_law_feed", none), "_law_feed", "_law_feed", defArgs s__law_feed, defBody s__law_feed, defScope s__law_feed, [], []⟩
abbrev s__law_draw : Stmt := top 32
def d__law_draw : He.DefD := ⟨("_law_draw", none), "_law_draw", "_law_draw", defArgs s__law_draw, defBody s__law_draw, defScope s__law_draw, [], []⟩
abbrev s__law_stand : Stmt := top 33
def d__law_stand : He.DefD := ⟨("_law_stand", none), "_law_stand", "_law_stand", defArgs s__law_stand, defBody s__law_stand, defScope s__law_stand, [], []⟩
abbrev s__law_menu : Stmt := top 34
def d__law_menu : He.DefD := ⟨("_law_menu", none), "_law_menu", "_law_menu", defArgs s__law_menu, defBody s__law_menu, defScope s__law_menu, [], []⟩
abbrev s__law_sort : Stmt := top 35
def d__law_sort : He.DefD := ⟨("_law_sort", none), "_law_sort", "_law_sort", defArgs s__law_sort, defBody s__law_sort, defScope s__law_sort, [], []⟩
abbrev s__law_item : Stmt := top 36
def d__law_item : He.DefD := ⟨("_law_item", none), "_law_item", "_law_item", defArgs s__law_item, defBody s__law_item, defScope s__law_item, [], []⟩
abbrev s__law_page : Stmt := top 37
def d__law_page : He.DefD := ⟨("_law_page", none), "_law_page", "_law_page", defArgs s__law_page, defBody s__law_page, defScope s__law_page, [], []⟩
abbrev s__law_marks : Stmt := top 38
def d__law_marks : He.DefD := ⟨("_law_marks", none), "_law_marks", "_law_marks", defArgs s__law_marks, defBody s__law_marks, defScope s__law_marks, [], []⟩
abbrev s__law_segment : Stmt := top 39
def d__law_segment : He.DefD := ⟨("_law_segment", none), "_law_segment", "_law_segment", defArgs s__law_segment, defBody s__law_segment, defScope s__law_segment, [], []⟩
abbrev s__law_layer : Stmt := top 40
def d__law_layer : He.DefD := ⟨("_law_layer", none), "_law_layer", "_law_layer", defArgs s__law_layer, defBody s__law_layer, defScope s__law_layer, [], []⟩
abbrev s__law_due : Stmt := top 41
def d__law_due : He.DefD := ⟨("_law_due", none), "_law_due", "_law_due", defArgs s__law_due, defBody s__law_due, defScope s__law_due, [], []⟩
abbrev s__law_is_right : Stmt := top 42
def d__law_is_right : He.DefD := ⟨("_law_is_right", none), "_law_is_right", "_law_is_right", defArgs s__law_is_right, defBody s__law_is_right, defScope s__law_is_right, [], []⟩
abbrev s_law : Stmt := top 43
def d_law : He.DefD := ⟨("law", none), "law", "law", defArgs s_law, defBody s_law, defScope s_law, [], []⟩
def fn : List He.DefD := [d_is_integer, d_is_number, d_is_name, d_is_kind, d_is_pair, d_is_sort, d_is_row, d_is_gaps, d_want, d_want_rows, d_want_text, d_is_row_of, d_want_row, d_are_carets, d_want_carets, d_segments_in, d_layers_in, d_bounds_around, d_segment_of, d_layer_of, d_rows_of_layer, d__law_feed, d__law_draw, d__law_stand, d__law_menu, d__law_sort, d__law_item, d__law_page, d__law_marks, d__law_segment, d__law_layer, d__law_due, d__law_is_right, d_law]
def fa : List He.Fa := [.glo "is_integer", .glo "is_number", .glo "is_name", .glo "is_kind", .glo "is_pair", .glo "is_sort", .glo "is_row", .glo "is_gaps", .glo "want", .glo "want_rows", .glo "want_text", .glo "is_row_of", .glo "want_row", .glo "are_carets", .glo "want_carets", .glo "segments_in", .glo "layers_in", .glo "bounds_around", .glo "segment_of", .glo "layer_of", .glo "rows_of_layer", .glo "_law_feed", .glo "_law_draw", .glo "_law_stand", .glo "_law_menu", .glo "_law_sort", .glo "_law_item", .glo "_law_page", .glo "_law_marks", .glo "_law_segment", .glo "_law_layer", .glo "_law_due", .glo "_law_is_right", .glo "law", .free "len", .free "isinstance", .free "all", .free "zip", .free "tuple", .free "list", .free "sorted", .free "set", .free "range", .free "int", .free "str", .free "bool", .free "repr", .free "enumerate", .free "super", .str "LETTERS" "abcdefghijklmnopqrstuvwxyz", .int "MOST_LETTERS" 8]
def loose : List Str := [("SurelyError" : Str), ("RowError" : Str), ("NotUsable" : Str), ("LETTERS" : Str), ("MOST_LETTERS" : Str), ("is_integer" : Str), ("is_number" : Str), ("is_name" : Str), ("is_kind" : Str), ("is_pair" : Str), ("is_sort" : Str), ("is_row" : Str), ("is_gaps" : Str), ("want" : Str), ("want_rows" : Str), ("want_text" : Str), ("is_row_of" : Str), ("want_row" : Str), ("are_carets" : Str), ("want_carets" : Str), ("segments_in" : Str), ("layers_in" : Str), ("bounds_around" : Str), ("segment_of" : Str), ("layer_of" : Str), ("rows_of_layer" : Str), ("_law_feed" : Str), ("_law_draw" : Str), ("_law_stand" : Str), ("_law_menu" : Str), ("_law_sort" : Str), ("_law_item" : Str), ("_law_page" : Str), ("_law_marks" : Str), ("_law_segment" : Str), ("_law_layer" : Str), ("_law_due" : Str), ("_law_is_right" : Str)]
def ex (K : PySem.W.Frag) : Bool := true
end Hd
namespace G
open PySem PySem.Spec PyProof.Rows L2 F
variable {P : Program} {w : World} {K : PySem.W.Frag} {mg : Str → Option Value} {base : Heap}

def b__law_draw : SM := (sSeq (sFput 0 "count" (eBin addM (eFget 0 "count") (eC (.int 1)))) (sSeq (sIf (tV (eBin gtM (eFget 0 "left") (eC (.int 0)))) (sSeq (sSet 5 (eBin modM (eCL (L1 intM) (aCons (eFget 0 "left") aNil)) (eVar 1))) (sSeq (sFput 0 "left" (eBin fdivM (eFget 0 "left") (eVar 1))) (sRet (eVar 5)))) sNil) (sSeq (sSet 2 (eFget 0 "at")) (sSeq (sFput 0 "at" (eBin addM (eVar 2) (eC (.int 1)))) (sSeq (sSet 3 (eIf (tV (eBin neM (eFget 0 "cells") (eN (nLst aNil)))) (eBin idxM (eFget 0 "cells") (eBin modM (eCL (L1 intM) (aCons (eVar 2) aNil)) (eCL (L1 lenM) (aCons (eFget 0 "cells") aNil)))) (eC (.int 47)))) (sSeq (sIf (tAndM (tV (eBin geM (eVar 3) (eBin powM (eC (.int 10)) (eC (.int 18))))) (tV (eBin ltM (eVar 2) (eCL (L1 lenM) (aCons (eFget 0 "cells") aNil))))) (sSeq (sFput 0 "left" (eBin fdivM (eVar 3) (eVar 1))) (sRet (eBin modM (eCL (L1 intM) (aCons (eVar 3) aNil)) (eVar 1)))) sNil) (sSeq (sSet 4 (eBin modM (eCL (L1 intM) (aCons (eBin addM (eBin addM (eBin modM (eCL (L1 intM) (aCons (eVar 3) aNil)) (eC (.int 1000000531))) (eBin mulM (eC (.int 230017)) (eFget 0 "count"))) (eC (.int 101))) aNil)) (eC (.int 2147482951)))) (sSeq (sSet 4 (eBin modM (eCL (L1 intM) (aCons (eBin addM (eBin addM (eBin mulM (eVar 4) (eVar 4)) (eBin mulM (eC (.int 5100007)) (eFget 0 "count"))) (eC (.int 59))) aNil)) (eC (.int 2147482949)))) (sRet (eBin modM (eCL (L1 intM) (aCons (eBin fdivM (eBin modM (eCL (L1 intM) (aCons (eBin addM (eBin mulM (eVar 4) (eVar 4)) (eBin mulM (eC (.int 103)) (eVar 4))) aNil)) (eC (.int 2147482873))) (eC (.int 16))) aNil)) (eVar 1)))))))))))
def M0__law_draw : List D → M D := runB 6 b__law_draw
theorem t0__law_draw (g : Gd Hd.fa Hd.fn Hd.ex K mg base) : Fnc P w K mg base 1 "_law_draw" 2 M0__law_draw := by
  have hN : (["_law_feed_here", "_law_many", "_law_turn_in", "_law_cell", "_law_mixed", "_law_digit"] : List Str).Nodup := by decide +kernel
  obtain ⟨fd, F⟩ := g.says.def_ 22 (d := Hd.d__law_draw) rfl
  exact fnc_of (ps := ["_law_feed_here", "_law_many"]) F (g.glo 22) rfl (fnC (N := ["_law_feed_here", "_law_many", "_law_turn_in", "_law_cell", "_law_mixed", "_law_digit"]) F (scope_ok (by decide +kernel)) fun cdv A outer s g0 H E d gd => (rss_cons (rs_fput 0 d.units (re_bin o_add (re_fget 0 d.units) re_int)) (rss_cons (rs_if (rt_cmp c_gt (re_fget 0 d.units) re_int) (rss_cons (rs_set 5 hN (re_bin o_mod (re_callTy b_int rfl (g.free 43) (by decide +kernel) (ra_cons (re_fget 0 d.units) ra_nil)) (re_var 1))) (rss_cons (rs_fput 0 d.units (re_bin o_fdiv (re_fget 0 d.units) (re_var 1))) (rss_one (rs_ret (re_var 5))))) rss_nil) (rss_cons (rs_set 2 hN (re_fget 0 d.units)) (rss_cons (rs_fput 0 d.units (re_bin o_add (re_var 2) re_int)) (rss_cons (rs_set 3 hN (re_if (rt_cmp (c_ne d.u64) (re_fget 0 d.units) (re_n (rn_lst ra_nil))) (re_ix (re_fget 0 d.units) (re_bin o_mod (re_callTy b_int rfl (g.free 43) (by decide +kernel) (ra_cons (re_var 2) ra_nil)) (re_callB b_len rfl (g.free 34) (by decide +kernel) (ra_cons (re_fget 0 d.units) ra_nil)))) re_int)) (rss_cons (rs_if (RW.rt (rw_and (rt_cmp c_ge (re_var 3) (re_bin o_pow re_int re_int)) (rw_and1 (rt_cmp c_lt (re_var 2) (re_callB b_len rfl (g.free 34) (by decide +kernel) (ra_cons (re_fget 0 d.units) ra_nil)))))) (rss_cons (rs_fput 0 d.units (re_bin o_fdiv (re_var 3) (re_var 1))) (rss_one (rs_ret (re_bin o_mod (re_callTy b_int rfl (g.free 43) (by decide +kernel) (ra_cons (re_var 3) ra_nil)) (re_var 1))))) rss_nil) (rss_cons (rs_set 4 hN (re_bin o_mod (re_callTy b_int rfl (g.free 43) (by decide +kernel) (ra_cons (re_bin o_add (re_bin o_add (re_bin o_mod (re_callTy b_int rfl (g.free 43) (by decide +kernel) (ra_cons (re_var 3) ra_nil)) re_int) (re_bin o_mul re_int (re_fget 0 d.units))) re_int) ra_nil)) re_int)) (rss_cons (rs_set 4 hN (re_bin o_mod (re_callTy b_int rfl (g.free 43) (by decide +kernel) (ra_cons (re_bin o_add (re_bin o_add (re_bin o_mul (re_var 4) (re_var 4)) (re_bin o_mul re_int (re_fget 0 d.units))) re_int) ra_nil)) re_int)) (rss_one (rs_ret (re_bin o_mod (re_callTy b_int rfl (g.free 43) (by decide +kernel) (ra_cons (re_bin o_fdiv (re_bin o_mod (re_callTy b_int rfl (g.free 43) (by decide +kernel) (ra_cons (re_bin o_add (re_bin o_mul (re_var 4) (re_var 4)) (re_bin o_mul re_int (re_var 4))) ra_nil)) re_int) re_int) ra_nil)) (re_var 1))))))))))))) (fun kV doc pm an cdv ct us h => by
    match us, h with
    | [u0, u1], _ => rfl)
end G
namespace G
open PySem PySem.Spec PyProof.Rows L2 F
theorem draw_ok : DrawOk M0__law_draw := DrawOk.of fun o n S cs sp lf tn hl h0 h1 hn hn2 => by
  unfold M0__law_draw runB startE b__law_draw
  simp only [List.map_cons, List.map_nil, List.length_cons, List.length_nil, List.replicate, List.cons_append, List.nil_append]
  have step : ∀ (c : Int) (cs : List Int), True := fun _ _ => trivial
  by_cases hlf : 0 < lf
  · simp [sSeq, sFput, eBin, eFget, eC, wp_b, wp_ret, wp_put, wp_fd hl, fg_cells, fg_spot, fg_left, fg_turns, fs_spot, fs_left, fs_turns, List.set_set, add_i, sIf, tV, gt_i, asB_b, eVar, sSet, aCons, aNil, sRet, eCL, L1, intM, mod_n, fdiv_n, hlf, hn, hn2]
    exact drQ h0 ..
  · have hc : cs = [] ∨ cs ≠ [] := Classical.em _
    rcases hc with hc | hc
    · subst hc
      by_cases hs : sp < 0 <;>
      simp [sSeq, sFput, eBin, eFget, eC, wp_b, wp_ret, wp_put, wp_fd hl, fg_cells, fg_spot, fg_left, fg_turns, fs_spot, fs_left, fs_turns, List.set_set, add_i, sIf, tV, gt_i, asB_b, eVar, sSet, sPar, sNil, aCons, aNil, sRet, eCL, L1, intM, mod_n, fdiv_n, hlf, hn, hn2, eIf, eN, nLst_nil, ne_nil0, tAndM, ge_i, pow_18, len_l, lt_i, mul_r, mul_l, mul_mod1, hs] <;> exact drQ h0 ..
    · have hc2 : 0 < (cs.length : Int) := by cases cs <;> simp at *
      have hc3 : cs.isEmpty = false := by cases cs <;> simp at *
      obtain ⟨c, ec⟩ := ix_ints cs (sp.fmod cs.length) (Int.fmod_nonneg_of_pos _ hc2) (Int.fmod_lt_of_pos _ hc2)
      by_cases hb : 1000000000000000000 ≤ c <;> by_cases hs : sp < cs.length <;>
      simp [sSeq, sFput, eBin, eFget, eC, wp_b, wp_ret, wp_put, wp_fd hl, fg_cells, fg_spot, fg_left, fg_turns, fs_spot, fs_left, fs_turns, List.set_set, add_i, sIf, tV, gt_i, asB_b, eVar, sSet, sPar, sNil, aCons, aNil, sRet, eCL, L1, intM, mod_n, fdiv_n, hlf, hn, hn2, eIf, eN, nLst_nil, ne_nil_ints cs, hc3, tAndM, ge_i, pow_18, len_l, lt_i, mul_r, mul_l, mul_mod1, hs, hb, ec, hc] <;> exact drQ h0 ..
def M__law_draw : List D → M D := drawM
variable {P : Program} {w : World} {K : PySem.W.Frag} {mg : Str → Option Value} {base : Heap}
theorem t__law_draw (g : Gd Hd.fa Hd.fn Hd.ex K mg base) : Fnc P w K mg base 1 "_law_draw" 2 M__law_draw := draw_fnc draw_ok (t0__law_draw g)
end G
namespace G
open PySem PySem.Spec PyProof.Rows L2 F
variable {P : Program} {w : World} {K : PySem.W.Frag} {mg : Str → Option Value} {base : Heap}


def b_is_integer : SM := (sRet (eAnd (eUn (isiM "int") (eVar 0)) (eNot (eUn (isiM "bool") (eVar 0)))))
def M_is_integer : List D → M D := runB 1 b_is_integer
theorem t_is_integer (g : Gd Hd.fa Hd.fn Hd.ex K mg base) : Fnc P w K mg base 1 "is_integer" 1 M_is_integer := by
  have hN : (["thing"] : List Str).Nodup := by decide +kernel
  obtain ⟨fd, F⟩ := g.says.def_ 0 (d := Hd.d_is_integer) rfl
  exact fnc_of (ps := ["thing"]) F (g.glo 0) rfl (fnC (N := ["thing"]) F (scope_ok (by decide +kernel)) fun cdv A outer s g0 H E d gd => (rss_one (rs_ret (re_and (re_isi isi_int rfl (g.free 35) rfl (g.free 43) (by decide +kernel) (re_var 0)) (re_one (re_not (re_isi isi_bool rfl (g.free 35) rfl (g.free 45) (by decide +kernel) (re_var 0)))))))) (fun kV doc pm an cdv ct us h => by
    match us, h with
    | [u0], _ => rfl)
def b_is_number : SM := (sRet (eAnd (eF 1 M_is_integer (aCons (eVar 0) aNil)) (eBin geM (eVar 0) (eC (.int 0)))))
def M_is_number : List D → M D := runB 1 b_is_number
theorem t_is_number (g : Gd Hd.fa Hd.fn Hd.ex K mg base) : Fnc P w K mg base 2 "is_number" 1 M_is_number := by
  have hN : (["thing"] : List Str).Nodup := by decide +kernel
  obtain ⟨fd, F⟩ := g.says.def_ 1 (d := Hd.d_is_number) rfl
  exact fnc_of (ps := ["thing"]) F (g.glo 1) rfl (fnC (N := ["thing"]) F (scope_ok (by decide +kernel)) fun cdv A outer s g0 H E d gd => (rss_one (rs_ret (re_and (re_f (t_is_integer g) d.cal gd (by decide) rfl (ra_cons (re_var 0) ra_nil)) (re_one (re_cmp c_ge (re_var 0) re_int)))))) (fun kV doc pm an cdv ct us h => by
    match us, h with
    | [u0], _ => rfl)
def b_is_name : SM := (sSeq (sIf (tOrM (tNotM (tTru (eUn (isiM "str") (eVar 0)))) (tNotM (tV (eChain leM leM (eC (.int 1)) (eCL (L1 lenM) (aCons (eVar 0) aNil)) (eC (.int 8)))))) (sRet (eC (.bl false))) sNil) (sRet (eCL (L1 allM) (aCons (eN (nComp [1] (iAny (eVar 0)) (gN 1) tYesM (eBin (inM false) (eVar 1) (eC (.str "abcdefghijklmnopqrstuvwxyz"))))) aNil))))
def M_is_name : List D → M D := runB 2 b_is_name
theorem t_is_name (g : Gd Hd.fa Hd.fn Hd.ex K mg base) : Fnc P w K mg base 1 "is_name" 1 M_is_name := by
  have hN : (["thing", "sign"] : List Str).Nodup := by decide +kernel
  obtain ⟨t_LETTERS, h_LETTERS⟩ := He.str_ok g.kin g.ns (g.says.fact 49 rfl)
  obtain ⟨t_MOST_LETTERS, h_MOST_LETTERS⟩ := He.int_ok g.kin g.ns (g.says.fact 50 rfl)
  obtain ⟨fd, F⟩ := g.says.def_ 2 (d := Hd.d_is_name) rfl
  exact fnc_of (ps := ["thing"]) F (g.glo 2) rfl (fnC (N := ["thing", "sign"]) F (scope_ok (by decide +kernel)) fun cdv A outer s g0 H E d gd => (rss_cons (rs_if (RW.rt (rw_or (rt_not (rt_tru (re_isi isi_str rfl (g.free 35) rfl (g.free 44) (by decide +kernel) (re_var 0)))) (rw_or1 (rt_not (rt_chain c_le c_le re_int (re_callB b_len rfl (g.free 34) (by decide +kernel) (ra_cons (re_var 0) ra_nil)) (re_glob rfl h_MOST_LETTERS (v := .int _) ⟨_, rfl⟩ (fun _ _ => .int _))))))) (rss_one (rs_ret re_bl)) rss_nil) (rss_one (rs_ret (re_callB (b_all rfl) rfl (g.free 36) (by decide +kernel) (ra_cons (re_n (rn_comp [("sign", 1)] rfl hN (ri_any (re_var 0)) (blkOk_by (by kernel_rfl)) (by decide) (fun _ _ _ _ _ => (rg_name 1 hN)) (fun _ _ _ _ _ => rts_nil) (fun _ _ _ _ _ => (re_cmp (c_in d.units) (re_var 1) (re_glob rfl h_LETTERS (v := .str _) ⟨_, rfl⟩ (fun _ _ => .str _)))))) ra_nil)))))) (fun kV doc pm an cdv ct us h => by
    match us, h with
    | [u0], _ => rfl)
def b_is_kind : SM := (sRet (eOr (eF 1 M_is_name (aCons (eVar 0) aNil)) (eAnd (eUn (isiM "str") (eVar 0)) (eBin eqM (eVar 0) (eC (.str ""))))))
def M_is_kind : List D → M D := runB 1 b_is_kind
theorem t_is_kind (g : Gd Hd.fa Hd.fn Hd.ex K mg base) : Fnc P w K mg base 2 "is_kind" 1 M_is_kind := by
  have hN : (["thing"] : List Str).Nodup := by decide +kernel
  obtain ⟨fd, F⟩ := g.says.def_ 3 (d := Hd.d_is_kind) rfl
  exact fnc_of (ps := ["thing"]) F (g.glo 3) rfl (fnC (N := ["thing"]) F (scope_ok (by decide +kernel)) fun cdv A outer s g0 H E d gd => (rss_one (rs_ret (re_or (re_f (t_is_name g) d.cal gd (by decide) rfl (ra_cons (re_var 0) ra_nil)) (re_one (re_and (re_isi isi_str rfl (g.free 35) rfl (g.free 44) (by decide +kernel) (re_var 0)) (re_one (re_cmp (c_eq d.u64) (re_var 0) re_str)))))))) (fun kV doc pm an cdv ct us h => by
    match us, h with
    | [u0], _ => rfl)
def b_is_pair : SM := (sRet (eAnd (eUn (isiM "tuple") (eVar 0)) (eBin eqM (eCL (L1 lenM) (aCons (eVar 0) aNil)) (eC (.int 2)))))
def M_is_pair : List D → M D := runB 1 b_is_pair
theorem t_is_pair (g : Gd Hd.fa Hd.fn Hd.ex K mg base) : Fnc P w K mg base 1 "is_pair" 1 M_is_pair := by
  have hN : (["thing"] : List Str).Nodup := by decide +kernel
  obtain ⟨fd, F⟩ := g.says.def_ 4 (d := Hd.d_is_pair) rfl
  exact fnc_of (ps := ["thing"]) F (g.glo 4) rfl (fnC (N := ["thing"]) F (scope_ok (by decide +kernel)) fun cdv A outer s g0 H E d gd => (rss_one (rs_ret (re_and (re_isi isi_tuple rfl (g.free 35) rfl (g.free 38) (by decide +kernel) (re_var 0)) (re_one (re_cmp (c_eq d.u64) (re_callB b_len rfl (g.free 34) (by decide +kernel) (ra_cons (re_var 0) ra_nil)) re_int)))))) (fun kV doc pm an cdv ct us h => by
    match us, h with
    | [u0], _ => rfl)
def b_is_sort : SM := (sSeq (sIf (tTru (eUn (isiM "str") (eVar 0))) (sRet (eBin (inM false) (eVar 0) (eTup (aCons (eC (.str "if")) (aCons (eC (.str "loop")) aNil))))) sNil) (sRet (eAnd (eF 1 M_is_pair (aCons (eVar 0) aNil)) (eAnd (eBin eqM (eBin idxM (eVar 0) (eC (.int 0))) (eC (.str "fun"))) (eF 1 M_is_kind (aCons (eBin idxM (eVar 0) (eC (.int 1))) aNil))))))
def M_is_sort : List D → M D := runB 1 b_is_sort
theorem t_is_sort (g : Gd Hd.fa Hd.fn Hd.ex K mg base) : Fnc P w K mg base 3 "is_sort" 1 M_is_sort := by
  have hN : (["thing"] : List Str).Nodup := by decide +kernel
  obtain ⟨fd, F⟩ := g.says.def_ 5 (d := Hd.d_is_sort) rfl
  exact fnc_of (ps := ["thing"]) F (g.glo 5) rfl (fnC (N := ["thing"]) F (scope_ok (by decide +kernel)) fun cdv A outer s g0 H E d gd => (rss_cons (rs_if (rt_tru (re_isi isi_str rfl (g.free 35) rfl (g.free 44) (by decide +kernel) (re_var 0))) (rss_one (rs_ret (re_cmp (c_in d.units) (re_var 0) (re_tup (ra_cons re_str (ra_cons re_str ra_nil)))))) rss_nil) (rss_one (rs_ret (re_and (re_f (t_is_pair g) d.cal gd (by decide) rfl (ra_cons (re_var 0) ra_nil)) (re_and (re_cmp (c_eq d.u64) (re_ix (re_var 0) re_int) re_str) (re_one (re_f (t_is_kind g) d.cal gd (by decide) rfl (ra_cons (re_ix (re_var 0) re_int) ra_nil))))))))) (fun kV doc pm an cdv ct us h => by
    match us, h with
    | [u0], _ => rfl)
def b_is_row : SM := (sSeq (sIf (tOrM (tNotM (tTru (eUn (isiM "tuple") (eVar 0)))) (tOrM (tV (eBin eqM (eCL (L1 lenM) (aCons (eVar 0) aNil)) (eC (.int 0)))) (tNotM (tTru (eUn (isiM "str") (eBin idxM (eVar 0) (eC (.int 0)))))))) (sRet (eC (.bl false))) sNil) (sSeq (sPar 1 2 (aCons (eBin idxM (eVar 0) (eC (.int 0))) (aCons (eSl (eVar 0) (pSome (eC (.int 1))) pNo) aNil))) (sSeq (sIf (tV (eBin (inM false) (eVar 1) (eTup (aCons (eC (.str "end")) (aCons (eC (.str "stop")) aNil))))) (sRet (eBin eqM (eCL (L1 lenM) (aCons (eVar 2) aNil)) (eC (.int 0)))) sNil) (sSeq (sIf (tV (eBin (inM false) (eVar 1) (eTup (aCons (eC (.str "let")) (aCons (eC (.str "use")) aNil))))) (sRet (eAnd (eBin eqM (eCL (L1 lenM) (aCons (eVar 2) aNil)) (eC (.int 2))) (eAnd (eF 1 M_is_name (aCons (eBin idxM (eVar 2) (eC (.int 0))) aNil)) (eF 1 M_is_name (aCons (eBin idxM (eVar 2) (eC (.int 1))) aNil))))) sNil) (sSeq (sIf (tV (eBin neM (eCL (L1 lenM) (aCons (eVar 2) aNil)) (eC (.int 1)))) (sRet (eC (.bl false))) sNil) (sRet (eIf (tV (eBin eqM (eVar 1) (eC (.str "open")))) (eF 1 M_is_sort (aCons (eBin idxM (eVar 2) (eC (.int 0))) aNil)) (eAnd (eBin eqM (eVar 1) (eC (.str "give"))) (eF 1 M_is_kind (aCons (eBin idxM (eVar 2) (eC (.int 0))) aNil))))))))))
def M_is_row : List D → M D := runB 3 b_is_row
theorem t_is_row (g : Gd Hd.fa Hd.fn Hd.ex K mg base) : Fnc P w K mg base 4 "is_row" 1 M_is_row := by
  have hN : (["thing", "word", "rest"] : List Str).Nodup := by decide +kernel
  obtain ⟨fd, F⟩ := g.says.def_ 6 (d := Hd.d_is_row) rfl
  exact fnc_of (ps := ["thing"]) F (g.glo 6) rfl (fnC (N := ["thing", "word", "rest"]) F (scope_ok (by decide +kernel)) fun cdv A outer s g0 H E d gd => (rss_cons (rs_if (RW.rt (rw_or (rt_not (rt_tru (re_isi isi_tuple rfl (g.free 35) rfl (g.free 38) (by decide +kernel) (re_var 0)))) (rw_or (rt_cmp (c_eq d.u64) (re_callB b_len rfl (g.free 34) (by decide +kernel) (ra_cons (re_var 0) ra_nil)) re_int) (rw_or1 (rt_not (rt_tru (re_isi isi_str rfl (g.free 35) rfl (g.free 44) (by decide +kernel) (re_ix (re_var 0) re_int)))))))) (rss_one (rs_ret re_bl)) rss_nil) (rss_cons (rs_par 1 2 rfl hN (ra_cons (re_ix (re_var 0) re_int) (ra_cons (re_sl (re_var 0) (ro_some re_int) ro_no) ra_nil))) (rss_cons (rs_if (rt_cmp (c_in d.units) (re_var 1) (re_tup (ra_cons re_str (ra_cons re_str ra_nil)))) (rss_one (rs_ret (re_cmp (c_eq d.u64) (re_callB b_len rfl (g.free 34) (by decide +kernel) (ra_cons (re_var 2) ra_nil)) re_int))) rss_nil) (rss_cons (rs_if (rt_cmp (c_in d.units) (re_var 1) (re_tup (ra_cons re_str (ra_cons re_str ra_nil)))) (rss_one (rs_ret (re_and (re_cmp (c_eq d.u64) (re_callB b_len rfl (g.free 34) (by decide +kernel) (ra_cons (re_var 2) ra_nil)) re_int) (re_and (re_f (t_is_name g) d.cal gd (by decide) rfl (ra_cons (re_ix (re_var 2) re_int) ra_nil)) (re_one (re_f (t_is_name g) d.cal gd (by decide) rfl (ra_cons (re_ix (re_var 2) re_int) ra_nil))))))) rss_nil) (rss_cons (rs_if (rt_cmp (c_ne d.u64) (re_callB b_len rfl (g.free 34) (by decide +kernel) (ra_cons (re_var 2) ra_nil)) re_int) (rss_one (rs_ret re_bl)) rss_nil) (rss_one (rs_ret (re_if (rt_cmp (c_eq d.u64) (re_var 1) re_str) (re_f (t_is_sort g) d.cal gd (by decide) rfl (ra_cons (re_ix (re_var 2) re_int) ra_nil)) (re_and (re_cmp (c_eq d.u64) (re_var 1) re_str) (re_one (re_f (t_is_kind g) d.cal gd (by decide) rfl (ra_cons (re_ix (re_var 2) re_int) ra_nil))))))))))))) (fun kV doc pm an cdv ct us h => by
    match us, h with
    | [u0], _ => rfl)
def b_is_gaps : SM := (sSeq (sIf (tOrM (tNotM (tTru (eUn (isiM "tuple") (eVar 0)))) (tNotM (tTru (eCL (L1 allM) (aCons (eN (nComp [1] (iAny (eVar 0)) (gN 1) tYesM (eF 1 M_is_number (aCons (eVar 1) aNil)))) aNil))))) (sRet (eC (.bl false))) sNil) (sRet (eCL (L1 allM) (aCons (eN (nComp [1, 2] (iZipM (aCons (eVar 0) (aCons (eSl (eVar 0) (pSome (eC (.int 1))) pNo) aNil))) (gTn 2 (gAll1 (gN 1) (gAll1 (gN 2) gAll0))) tYesM (eBin ltM (eVar 1) (eVar 2)))) aNil))))
def M_is_gaps : List D → M D := runB 3 b_is_gaps
theorem t_is_gaps (g : Gd Hd.fa Hd.fn Hd.ex K mg base) : Fnc P w K mg base 3 "is_gaps" 1 M_is_gaps := by
  have hN : (["thing", "one", "other"] : List Str).Nodup := by decide +kernel
  obtain ⟨fd, F⟩ := g.says.def_ 7 (d := Hd.d_is_gaps) rfl
  exact fnc_of (ps := ["thing"]) F (g.glo 7) rfl (fnC (N := ["thing", "one", "other"]) F (scope_ok (by decide +kernel)) fun cdv A outer s g0 H E d gd => (rss_cons (rs_if (RW.rt (rw_or (rt_not (rt_tru (re_isi isi_tuple rfl (g.free 35) rfl (g.free 38) (by decide +kernel) (re_var 0)))) (rw_or1 (rt_not (rt_tru (re_callB (b_all rfl) rfl (g.free 36) (by decide +kernel) (ra_cons (re_n (rn_comp [("one", 1)] rfl hN (ri_any (re_var 0)) (blkOk_by (by kernel_rfl)) (by decide) (fun _ _ _ _ _ => (rg_name 1 hN)) (fun _ _ _ _ _ => rts_nil) (fun _ _ _ _ _ => (re_f (t_is_number g) (cal_b d.cal _ _ _ _ _) gd (by decide) rfl (ra_cons (re_var 1) ra_nil))))) ra_nil))))))) (rss_one (rs_ret re_bl)) rss_nil) (rss_one (rs_ret (re_callB (b_all rfl) rfl (g.free 36) (by decide +kernel) (ra_cons (re_n (rn_comp [("one", 1), ("other", 2)] rfl hN (ri_zip rfl (g.free 37) (ra_cons (re_var 0) (ra_cons (re_sl (re_var 0) (ro_some re_int) ro_no) ra_nil))) (blkOk_by (by kernel_rfl)) (by decide) (fun _ _ _ _ _ => (rg_tup 2 rfl (rgs_cons (rg_name 1 hN) (rgs_cons (rg_name 2 hN) rgs_nil)))) (fun _ _ _ _ _ => rts_nil) (fun _ _ _ _ _ => (re_cmp c_lt (re_var 1) (re_var 2))))) ra_nil)))))) (fun kV doc pm an cdv ct us h => by
    match us, h with
    | [u0], _ => rfl)
def b_want : SM := (sIf (tNotM (tTru (eVar 0))) sBad sNil)
def M_want : List D → M D := runB 3 b_want
theorem t_want (g : Gd Hd.fa Hd.fn Hd.ex K mg base) : Fnc P w K mg base 1 "want" 3 M_want := by
  have hN : (["is_right", "word", "at"] : List Str).Nodup := by decide +kernel
  obtain ⟨fd, F⟩ := g.says.def_ 8 (d := Hd.d_want) rfl
  exact fnc_d (ps := ["is_right", "word", "at"]) F (g.glo 8) rfl (fnCd (N := ["is_right", "word", "at"]) (ps := ["is_right", "word", "at"]) F (scope_ok (by decide +kernel)) fun cdv A outer s g0 H E d gd => (rss_one (rs_if (rt_not (rt_tru (re_var 0))) (rss_one rs_bad) rss_nil))) (by exact List.cons_ne_nil _ _) (fun T kV doc pm an cdv ct us its h1 h2 => by
    match us, h1 with
    | [u0, u1, u2], _ => match its, h2 with
      | [v0], _ => exact ⟨_, rfl, rfl⟩)
theorem d_want_2 (g : Gd Hd.fa Hd.fn Hd.ex K mg base) : Fnd P w K mg base 1 "want" 2 [.int (-1)] M_want := by
  have hN : (["is_right", "word", "at"] : List Str).Nodup := by decide +kernel
  obtain ⟨fd, F⟩ := g.says.def_ 8 (d := Hd.d_want) rfl
  exact fnd_of (ps := ["is_right", "word", "at"]) (m := 2) (j := 0) F (g.glo 8) (fnCd (N := ["is_right", "word", "at"]) (ps := ["is_right", "word", "at"]) F (scope_ok (by decide +kernel)) fun cdv A outer s g0 H E d gd => (rss_one (rs_if (rt_not (rt_tru (re_var 0))) (rss_one rs_bad) rss_nil))) (by exact List.cons_ne_nil _ _) rfl (fun F θ => .cons (.int _) (.nil)) (fun T kV doc pm an cdv ct us its h1 h2 => by
    match us, h1 with
    | [u0, u1], _ => match its, h2 with
      | [v0], _ => exact ⟨_, rfl, rfl⟩)
def b_want_rows : SM := (sSeq (sDrop (eFd 2 [.int (-1)] M_want (aCons (eUn (isiM "tuple") (eVar 1)) (aCons (eVar 0) aNil)))) (sFor (iEnumM (aCons (eVar 1) aNil)) (gTn 2 (gAll1 (gN 2) (gAll1 (gN 3) gAll0))) (sDrop (eF 3 M_want (aCons (eF 1 M_is_row (aCons (eVar 3) aNil)) (aCons (eVar 0) (aCons (eVar 2) aNil)))))))
def M_want_rows : List D → M D := runB 4 b_want_rows
theorem t_want_rows (g : Gd Hd.fa Hd.fn Hd.ex K mg base) : Fnc P w K mg base 5 "want_rows" 2 M_want_rows := by
  have hN : (["word", "thing", "k", "row"] : List Str).Nodup := by decide +kernel
  obtain ⟨fd, F⟩ := g.says.def_ 9 (d := Hd.d_want_rows) rfl
  exact fnc_of (ps := ["word", "thing"]) F (g.glo 9) rfl (fnC (N := ["word", "thing", "k", "row"]) F (scope_ok (by decide +kernel)) fun cdv A outer s g0 H E d gd => (rss_cons (rs_drop (re_fd (d_want_2 g) d.cal gd (by decide) rfl (ra_cons (re_isi isi_tuple rfl (g.free 35) rfl (g.free 38) (by decide +kernel) (re_var 1)) (ra_cons (re_var 0) ra_nil)))) (rss_one (rs_for d.po rfl (ri_enum rfl (g.free 47) (ra_cons (re_var 1) ra_nil)) (rg_tup 2 rfl (rgs_cons (rg_name 2 hN) (rgs_cons (rg_name 3 hN) rgs_nil))) (rss_one (rs_drop (re_f (t_want g) d.cal gd (by decide) rfl (ra_cons (re_f (t_is_row g) d.cal gd (by decide) rfl (ra_cons (re_var 3) ra_nil)) (ra_cons (re_var 0) (ra_cons (re_var 2) ra_nil)))))))))) (fun kV doc pm an cdv ct us h => by
    match us, h with
    | [u0, u1], _ => rfl)
def b_want_text : SM := (sDrop (eF 2 M_want_rows (aCons (eC (.str "text")) (aCons (eVar 0) aNil))))
def M_want_text : List D → M D := runB 1 b_want_text
theorem t_want_text (g : Gd Hd.fa Hd.fn Hd.ex K mg base) : Fnc P w K mg base 6 "want_text" 1 M_want_text := by
  have hN : (["text"] : List Str).Nodup := by decide +kernel
  obtain ⟨fd, F⟩ := g.says.def_ 10 (d := Hd.d_want_text) rfl
  exact fnc_of (ps := ["text"]) F (g.glo 10) rfl (fnC (N := ["text"]) F (scope_ok (by decide +kernel)) fun cdv A outer s g0 H E d gd => (rss_one (rs_drop (re_f (t_want_rows g) d.cal gd (by decide) rfl (ra_cons re_str (ra_cons (re_var 0) ra_nil)))))) (fun kV doc pm an cdv ct us h => by
    match us, h with
    | [u0], _ => rfl)
def b_is_row_of : SM := (sRet (eAnd (eF 1 M_is_number (aCons (eVar 1) aNil)) (eBin ltM (eVar 1) (eCL (L1 lenM) (aCons (eVar 0) aNil)))))
def M_is_row_of : List D → M D := runB 2 b_is_row_of
theorem t_is_row_of (g : Gd Hd.fa Hd.fn Hd.ex K mg base) : Fnc P w K mg base 3 "is_row_of" 2 M_is_row_of := by
  have hN : (["text", "thing"] : List Str).Nodup := by decide +kernel
  obtain ⟨fd, F⟩ := g.says.def_ 11 (d := Hd.d_is_row_of) rfl
  exact fnc_of (ps := ["text", "thing"]) F (g.glo 11) rfl (fnC (N := ["text", "thing"]) F (scope_ok (by decide +kernel)) fun cdv A outer s g0 H E d gd => (rss_one (rs_ret (re_and (re_f (t_is_number g) d.cal gd (by decide) rfl (ra_cons (re_var 1) ra_nil)) (re_one (re_cmp c_lt (re_var 1) (re_callB b_len rfl (g.free 34) (by decide +kernel) (ra_cons (re_var 0) ra_nil)))))))) (fun kV doc pm an cdv ct us h => by
    match us, h with
    | [u0, u1], _ => rfl)
def b_want_row : SM := (sDrop (eF 3 M_want (aCons (eF 2 M_is_row_of (aCons (eVar 0) (aCons (eVar 1) aNil))) (aCons (eC (.str "row")) (aCons (eVar 1) aNil)))))
def M_want_row : List D → M D := runB 2 b_want_row
theorem t_want_row (g : Gd Hd.fa Hd.fn Hd.ex K mg base) : Fnc P w K mg base 4 "want_row" 2 M_want_row := by
  have hN : (["text", "row"] : List Str).Nodup := by decide +kernel
  obtain ⟨fd, F⟩ := g.says.def_ 12 (d := Hd.d_want_row) rfl
  exact fnc_of (ps := ["text", "row"]) F (g.glo 12) rfl (fnC (N := ["text", "row"]) F (scope_ok (by decide +kernel)) fun cdv A outer s g0 H E d gd => (rss_one (rs_drop (re_f (t_want g) d.cal gd (by decide) rfl (ra_cons (re_f (t_is_row_of g) d.cal gd (by decide) rfl (ra_cons (re_var 0) (ra_cons (re_var 1) ra_nil))) (ra_cons re_str (ra_cons (re_var 1) ra_nil))))))) (fun kV doc pm an cdv ct us h => by
    match us, h with
    | [u0, u1], _ => rfl)
def b_are_carets : SM := (sRet (eAnd (eF 1 M_is_gaps (aCons (eVar 1) aNil)) (eOr (eBin eqM (eCL (L1 lenM) (aCons (eVar 1) aNil)) (eC (.int 0))) (eBin leM (eBin idxM (eVar 1) (eUn negM (eC (.int 1)))) (eCL (L1 lenM) (aCons (eVar 0) aNil))))))
def M_are_carets : List D → M D := runB 2 b_are_carets
theorem t_are_carets (g : Gd Hd.fa Hd.fn Hd.ex K mg base) : Fnc P w K mg base 4 "are_carets" 2 M_are_carets := by
  have hN : (["text", "thing"] : List Str).Nodup := by decide +kernel
  obtain ⟨fd, F⟩ := g.says.def_ 13 (d := Hd.d_are_carets) rfl
  exact fnc_of (ps := ["text", "thing"]) F (g.glo 13) rfl (fnC (N := ["text", "thing"]) F (scope_ok (by decide +kernel)) fun cdv A outer s g0 H E d gd => (rss_one (rs_ret (re_and (re_f (t_is_gaps g) d.cal gd (by decide) rfl (ra_cons (re_var 1) ra_nil)) (re_one (re_or (re_cmp (c_eq d.u64) (re_callB b_len rfl (g.free 34) (by decide +kernel) (ra_cons (re_var 1) ra_nil)) re_int) (re_one (re_cmp c_le (re_ix (re_var 1) (re_un u_neg re_int)) (re_callB b_len rfl (g.free 34) (by decide +kernel) (ra_cons (re_var 0) ra_nil)))))))))) (fun kV doc pm an cdv ct us h => by
    match us, h with
    | [u0, u1], _ => rfl)
def b_want_carets : SM := (sDrop (eFd 2 [.int (-1)] M_want (aCons (eF 2 M_are_carets (aCons (eVar 0) (aCons (eVar 1) aNil))) (aCons (eC (.str "carets")) aNil))))
def M_want_carets : List D → M D := runB 2 b_want_carets
theorem t_want_carets (g : Gd Hd.fa Hd.fn Hd.ex K mg base) : Fnc P w K mg base 5 "want_carets" 2 M_want_carets := by
  have hN : (["text", "carets"] : List Str).Nodup := by decide +kernel
  obtain ⟨fd, F⟩ := g.says.def_ 14 (d := Hd.d_want_carets) rfl
  exact fnc_of (ps := ["text", "carets"]) F (g.glo 14) rfl (fnC (N := ["text", "carets"]) F (scope_ok (by decide +kernel)) fun cdv A outer s g0 H E d gd => (rss_one (rs_drop (re_fd (d_want_2 g) d.cal gd (by decide) rfl (ra_cons (re_f (t_are_carets g) d.cal gd (by decide) rfl (ra_cons (re_var 0) (ra_cons (re_var 1) ra_nil))) (ra_cons re_str ra_nil)))))) (fun kV doc pm an cdv ct us h => by
    match us, h with
    | [u0, u1], _ => rfl)
def b_segments_in : SM := (sRet (eN (nLZ (aCons (eVar 1) (aCons (eN (nLst (aStar (eSl (eVar 1) (pSome (eC (.int 1))) pNo) (aCons (eCL (L1 lenM) (aCons (eVar 0) aNil)) aNil)))) aNil)))))
def M_segments_in : List D → M D := runB 2 b_segments_in
theorem t_segments_in (g : Gd Hd.fa Hd.fn Hd.ex K mg base) : Fnc P w K mg base 1 "segments_in" 2 M_segments_in := by
  have hN : (["text", "carets"] : List Str).Nodup := by decide +kernel
  obtain ⟨fd, F⟩ := g.says.def_ 15 (d := Hd.d_segments_in) rfl
  exact fnc_of (ps := ["text", "carets"]) F (g.glo 15) rfl (fnC (N := ["text", "carets"]) F (scope_ok (by decide +kernel)) fun cdv A outer s g0 H E d gd => (rss_one (rs_ret (re_n (rn_listZip rfl (ra_cons (re_var 1) (ra_cons (re_n (rn_lst (ra_star (re_sl (re_var 1) (ro_some re_int) ro_no) (ra_cons (re_callB b_len rfl (g.free 34) (by decide +kernel) (ra_cons (re_var 0) ra_nil)) ra_nil)))) ra_nil)) rfl (g.free 39) rfl (g.free 37)))))) (fun kV doc pm an cdv ct us h => by
    match us, h with
    | [u0, u1], _ => rfl)
def b_layers_in : SM := (sSeq (sPar3 3 4 5 (lO (nLst aNil) (lV (eC (.int 0)) (lV (eC (.int 0)) lNil)))) (sSeq (sFor (iAny (eSl (eVar 0) (pSome (eVar 1)) (pSome (eVar 2)))) (gN 6) (sSeq (sApp 3 (eVar 5)) (sIf (tV (eBin eqM (eBin idxM (eVar 6) (eC (.int 0))) (eC (.str "open")))) (sAug 4 addA (eC (.int 1))) (sIf (tAndM (tV (eBin eqM (eBin idxM (eVar 6) (eC (.int 0))) (eC (.str "end")))) (tV (eBin gtM (eVar 4) (eC (.int 0))))) (sAug 4 subA (eC (.int 1))) (sIf (tV (eBin eqM (eBin idxM (eVar 6) (eC (.int 0))) (eC (.str "end")))) (sAug 5 addA (eC (.int 1))) sNil))))) (sFrz 3 (sRet (eVar 3)))))
def M_layers_in : List D → M D := runB 7 b_layers_in
theorem t_layers_in (g : Gd Hd.fa Hd.fn Hd.ex K mg base) : Fnc P w K mg base 1 "layers_in" 3 M_layers_in := by
  have hN : (["text", "first", "last", "found", "opened", "layer", "row"] : List Str).Nodup := by decide +kernel
  obtain ⟨fd, F⟩ := g.says.def_ 16 (d := Hd.d_layers_in) rfl
  exact fnc_of (ps := ["text", "first", "last"]) F (g.glo 16) rfl (fnC (N := ["text", "first", "last", "found", "opened", "layer", "row"]) F (scope_ok (by decide +kernel)) fun cdv A outer s g0 H E d gd => (rss_cons (rs_par3 3 4 5 rfl hN (rl_own (rn_lst ra_nil) (rl_v re_int (rl_v re_int rl_nil)))) (rss_cons (rs_for d.po rfl (ri_any (re_sl (re_var 0) (ro_some (re_var 1)) (ro_some (re_var 2)))) (rg_name 6 hN) (rss_cons (rs_append 3 (re_var 5)) (rss_one (rs_if (rt_cmp (c_eq d.u64) (re_ix (re_var 6) re_int) re_str) (rss_one (rs_augAddA 4 hN re_int)) (rss_one (rs_if (RW.rt (rw_and (rt_cmp (c_eq d.u64) (re_ix (re_var 6) re_int) re_str) (rw_and1 (rt_cmp c_gt (re_var 4) re_int)))) (rss_one (rs_augSub 4 hN re_int)) (rss_one (rs_if (rt_cmp (c_eq d.u64) (re_ix (re_var 6) re_int) re_str) (rss_one (rs_augAddA 5 hN re_int)) rss_nil)))))))) (rss_one (rs_frz 3 (rs_ret (re_var 3))))))) (fun kV doc pm an cdv ct us h => by
    match us, h with
    | [u0, u1, u2], _ => rfl)
def b_bounds_around : SM := (sSeq (sSetL 3 (nComp [4, 5] (iAny (eF 2 M_segments_in (aCons (eVar 0) (aCons (eVar 1) aNil)))) (gTn 2 (gAll1 (gN 4) (gAll1 (gN 5) gAll0))) (tV (eChain leM ltM (eVar 4) (eVar 2) (eVar 5))) (eTup (aCons (eVar 4) (aCons (eVar 5) aNil))))) (sRet (eIf (tV (eBin gtM (eCL (L1 lenM) (aCons (eVar 3) aNil)) (eC (.int 0)))) (eBin idxM (eVar 3) (eC (.int 0))) (eC .non))))
def M_bounds_around : List D → M D := runB 6 b_bounds_around
theorem t_bounds_around (g : Gd Hd.fa Hd.fn Hd.ex K mg base) : Fnc P w K mg base 2 "bounds_around" 3 M_bounds_around := by
  have hN : (["text", "carets", "row", "found", "first", "last"] : List Str).Nodup := by decide +kernel
  obtain ⟨fd, F⟩ := g.says.def_ 17 (d := Hd.d_bounds_around) rfl
  exact fnc_of (ps := ["text", "carets", "row"]) F (g.glo 17) rfl (fnC (N := ["text", "carets", "row", "found", "first", "last"]) F (scope_ok (by decide +kernel)) fun cdv A outer s g0 H E d gd => (rss_cons (rs_setC 3 [("first", 4), ("last", 5)] rfl hN (ri_any (re_f (t_segments_in g) d.cal gd (by decide) rfl (ra_cons (re_var 0) (ra_cons (re_var 1) ra_nil)))) (blkOk_by (by kernel_rfl)) (by decide) (fun _ _ _ _ _ => (rg_tup 2 rfl (rgs_cons (rg_name 4 hN) (rgs_cons (rg_name 5 hN) rgs_nil)))) (fun _ _ _ _ _ => (rts_one (rt_chain c_le c_lt (re_var 4) (re_var 2) (re_var 5)))) (fun _ _ _ _ _ => (re_tup (ra_cons (re_var 4) (ra_cons (re_var 5) ra_nil))))) (rss_one (rs_ret (re_if (rt_cmp c_gt (re_callB b_len rfl (g.free 34) (by decide +kernel) (ra_cons (re_var 3) ra_nil)) re_int) (re_ix (re_var 3) re_int) re_non))))) (fun kV doc pm an cdv ct us h => by
    match us, h with
    | [u0, u1, u2], _ => rfl)
def b_segment_of : SM := (sSeq (sDrop (eF 1 M_want_text (aCons (eVar 0) aNil))) (sSeq (sDrop (eF 2 M_want_carets (aCons (eVar 0) (aCons (eVar 1) aNil)))) (sSeq (sDrop (eF 2 M_want_row (aCons (eVar 0) (aCons (eVar 2) aNil)))) (sSeq (sSet 3 (eF 3 M_bounds_around (aCons (eVar 0) (aCons (eVar 1) (aCons (eVar 2) aNil))))) (sRet (eIf (tV (eBin isnM (eVar 3) (eC .non))) (eC .non) (eTup (aCons (eBin idxM (eVar 3) (eC (.int 0))) (aCons (eBin subM (eBin idxM (eVar 3) (eC (.int 1))) (eC (.int 1))) aNil)))))))))
def M_segment_of : List D → M D := runB 4 b_segment_of
theorem t_segment_of (g : Gd Hd.fa Hd.fn Hd.ex K mg base) : Fnc P w K mg base 7 "segment_of" 3 M_segment_of := by
  have hN : (["text", "carets", "row", "bounds"] : List Str).Nodup := by decide +kernel
  obtain ⟨fd, F⟩ := g.says.def_ 18 (d := Hd.d_segment_of) rfl
  exact fnc_of (ps := ["text", "carets", "row"]) F (g.glo 18) rfl (fnC (N := ["text", "carets", "row", "bounds"]) F (scope_ok (by decide +kernel)) fun cdv A outer s g0 H E d gd => (rss_cons (rs_drop (re_f (t_want_text g) d.cal gd (by decide) rfl (ra_cons (re_var 0) ra_nil))) (rss_cons (rs_drop (re_f (t_want_carets g) d.cal gd (by decide) rfl (ra_cons (re_var 0) (ra_cons (re_var 1) ra_nil)))) (rss_cons (rs_drop (re_f (t_want_row g) d.cal gd (by decide) rfl (ra_cons (re_var 0) (ra_cons (re_var 2) ra_nil)))) (rss_cons (rs_set 3 hN (re_f (t_bounds_around g) d.cal gd (by decide) rfl (ra_cons (re_var 0) (ra_cons (re_var 1) (ra_cons (re_var 2) ra_nil))))) (rss_one (rs_ret (re_if (rt_cmp c_isn (re_var 3) re_non) re_non (re_tup (ra_cons (re_ix (re_var 3) re_int) (ra_cons (re_bin o_sub (re_ix (re_var 3) re_int) re_int) ra_nil))))))))))) (fun kV doc pm an cdv ct us h => by
    match us, h with
    | [u0, u1, u2], _ => rfl)
theorem k_segment_of_row_carets_text (g : Gd Hd.fa Hd.fn Hd.ex K mg base) : Fnkp P w K mg base 7 "segment_of" ["row", "carets", "text"] [2, 1, 0] M_segment_of := by
  have hN : (["text", "carets", "row", "bounds"] : List Str).Nodup := by decide +kernel
  obtain ⟨fd, F⟩ := g.says.def_ 18 (d := Hd.d_segment_of) rfl
  exact fnkp_of (ps := ["text", "carets", "row"]) [2, 1, 0] F (g.glo 18) (fnC (N := ["text", "carets", "row", "bounds"]) F (scope_ok (by decide +kernel)) fun cdv A outer s g0 H E d gd => (rss_cons (rs_drop (re_f (t_want_text g) d.cal gd (by decide) rfl (ra_cons (re_var 0) ra_nil))) (rss_cons (rs_drop (re_f (t_want_carets g) d.cal gd (by decide) rfl (ra_cons (re_var 0) (ra_cons (re_var 1) ra_nil)))) (rss_cons (rs_drop (re_f (t_want_row g) d.cal gd (by decide) rfl (ra_cons (re_var 0) (ra_cons (re_var 2) ra_nil)))) (rss_cons (rs_set 3 hN (re_f (t_bounds_around g) d.cal gd (by decide) rfl (ra_cons (re_var 0) (ra_cons (re_var 1) (ra_cons (re_var 2) ra_nil))))) (rss_one (rs_ret (re_if (rt_cmp c_isn (re_var 3) re_non) re_non (re_tup (ra_cons (re_ix (re_var 3) re_int) (ra_cons (re_bin o_sub (re_ix (re_var 3) re_int) re_int) ra_nil))))))))))) rfl (by decide) (fun kV doc pm an cdv ct us h => by
    match us, h with
    | [u0, u1, u2], _ => rfl)
def b_layer_of : SM := (sSeq (sDrop (eF 1 M_want_text (aCons (eVar 0) aNil))) (sSeq (sDrop (eF 2 M_want_carets (aCons (eVar 0) (aCons (eVar 1) aNil)))) (sSeq (sDrop (eF 2 M_want_row (aCons (eVar 0) (aCons (eVar 2) aNil)))) (sSeq (sSet 3 (eF 3 M_bounds_around (aCons (eVar 0) (aCons (eVar 1) (aCons (eVar 2) aNil))))) (sRet (eIf (tV (eBin isnM (eVar 3) (eC .non))) (eC .non) (eBin idxM (eF 3 M_layers_in (aCons (eVar 0) (aCons (eBin idxM (eVar 3) (eC (.int 0))) (aCons (eBin idxM (eVar 3) (eC (.int 1))) aNil)))) (eBin subM (eVar 2) (eBin idxM (eVar 3) (eC (.int 0)))))))))))
def M_layer_of : List D → M D := runB 4 b_layer_of
theorem t_layer_of (g : Gd Hd.fa Hd.fn Hd.ex K mg base) : Fnc P w K mg base 7 "layer_of" 3 M_layer_of := by
  have hN : (["text", "carets", "row", "bounds"] : List Str).Nodup := by decide +kernel
  obtain ⟨fd, F⟩ := g.says.def_ 19 (d := Hd.d_layer_of) rfl
  exact fnc_of (ps := ["text", "carets", "row"]) F (g.glo 19) rfl (fnC (N := ["text", "carets", "row", "bounds"]) F (scope_ok (by decide +kernel)) fun cdv A outer s g0 H E d gd => (rss_cons (rs_drop (re_f (t_want_text g) d.cal gd (by decide) rfl (ra_cons (re_var 0) ra_nil))) (rss_cons (rs_drop (re_f (t_want_carets g) d.cal gd (by decide) rfl (ra_cons (re_var 0) (ra_cons (re_var 1) ra_nil)))) (rss_cons (rs_drop (re_f (t_want_row g) d.cal gd (by decide) rfl (ra_cons (re_var 0) (ra_cons (re_var 2) ra_nil)))) (rss_cons (rs_set 3 hN (re_f (t_bounds_around g) d.cal gd (by decide) rfl (ra_cons (re_var 0) (ra_cons (re_var 1) (ra_cons (re_var 2) ra_nil))))) (rss_one (rs_ret (re_if (rt_cmp c_isn (re_var 3) re_non) re_non (re_ix (re_f (t_layers_in g) d.cal gd (by decide) rfl (ra_cons (re_var 0) (ra_cons (re_ix (re_var 3) re_int) (ra_cons (re_ix (re_var 3) re_int) ra_nil)))) (re_bin o_sub (re_var 2) (re_ix (re_var 3) re_int))))))))))) (fun kV doc pm an cdv ct us h => by
    match us, h with
    | [u0, u1, u2], _ => rfl)
theorem k_layer_of_row_carets_text (g : Gd Hd.fa Hd.fn Hd.ex K mg base) : Fnkp P w K mg base 7 "layer_of" ["row", "carets", "text"] [2, 1, 0] M_layer_of := by
  have hN : (["text", "carets", "row", "bounds"] : List Str).Nodup := by decide +kernel
  obtain ⟨fd, F⟩ := g.says.def_ 19 (d := Hd.d_layer_of) rfl
  exact fnkp_of (ps := ["text", "carets", "row"]) [2, 1, 0] F (g.glo 19) (fnC (N := ["text", "carets", "row", "bounds"]) F (scope_ok (by decide +kernel)) fun cdv A outer s g0 H E d gd => (rss_cons (rs_drop (re_f (t_want_text g) d.cal gd (by decide) rfl (ra_cons (re_var 0) ra_nil))) (rss_cons (rs_drop (re_f (t_want_carets g) d.cal gd (by decide) rfl (ra_cons (re_var 0) (ra_cons (re_var 1) ra_nil)))) (rss_cons (rs_drop (re_f (t_want_row g) d.cal gd (by decide) rfl (ra_cons (re_var 0) (ra_cons (re_var 2) ra_nil)))) (rss_cons (rs_set 3 hN (re_f (t_bounds_around g) d.cal gd (by decide) rfl (ra_cons (re_var 0) (ra_cons (re_var 1) (ra_cons (re_var 2) ra_nil))))) (rss_one (rs_ret (re_if (rt_cmp c_isn (re_var 3) re_non) re_non (re_ix (re_f (t_layers_in g) d.cal gd (by decide) rfl (ra_cons (re_var 0) (ra_cons (re_ix (re_var 3) re_int) (ra_cons (re_ix (re_var 3) re_int) ra_nil)))) (re_bin o_sub (re_var 2) (re_ix (re_var 3) re_int))))))))))) rfl (by decide) (fun kV doc pm an cdv ct us h => by
    match us, h with
    | [u0, u1, u2], _ => rfl)
def b_rows_of_layer : SM := (sSeq (sDrop (eF 1 M_want_text (aCons (eVar 0) aNil))) (sSeq (sDrop (eF 2 M_want_carets (aCons (eVar 0) (aCons (eVar 1) aNil)))) (sSeq (sDrop (eF 2 M_want_row (aCons (eVar 0) (aCons (eVar 2) aNil)))) (sSeq (sSet 3 (eF 3 M_bounds_around (aCons (eVar 0) (aCons (eVar 1) (aCons (eVar 2) aNil))))) (sSeq (sIf (tV (eBin isnM (eVar 3) (eC .non))) (sRet (eTup aNil)) sNil) (sSeq (sSet 4 (eF 3 M_layers_in (aCons (eVar 0) (aCons (eBin idxM (eVar 3) (eC (.int 0))) (aCons (eBin idxM (eVar 3) (eC (.int 1))) aNil))))) (sRet (eCL (L1 tupleM) (aCons (eN (nComp [5, 6] (iEnumM (aCons (eVar 4) aNil)) (gTn 2 (gAll1 (gN 5) (gAll1 (gN 6) gAll0))) (tV (eBin eqM (eVar 6) (eBin idxM (eVar 4) (eBin subM (eVar 2) (eBin idxM (eVar 3) (eC (.int 0))))))) (eBin addM (eBin idxM (eVar 3) (eC (.int 0))) (eVar 5)))) aNil)))))))))
def M_rows_of_layer : List D → M D := runB 7 b_rows_of_layer
theorem t_rows_of_layer (g : Gd Hd.fa Hd.fn Hd.ex K mg base) : Fnc P w K mg base 7 "rows_of_layer" 3 M_rows_of_layer := by
  have hN : (["text", "carets", "row", "bounds", "layers", "k", "layer"] : List Str).Nodup := by decide +kernel
  obtain ⟨fd, F⟩ := g.says.def_ 20 (d := Hd.d_rows_of_layer) rfl
  exact fnc_of (ps := ["text", "carets", "row"]) F (g.glo 20) rfl (fnC (N := ["text", "carets", "row", "bounds", "layers", "k", "layer"]) F (scope_ok (by decide +kernel)) fun cdv A outer s g0 H E d gd => (rss_cons (rs_drop (re_f (t_want_text g) d.cal gd (by decide) rfl (ra_cons (re_var 0) ra_nil))) (rss_cons (rs_drop (re_f (t_want_carets g) d.cal gd (by decide) rfl (ra_cons (re_var 0) (ra_cons (re_var 1) ra_nil)))) (rss_cons (rs_drop (re_f (t_want_row g) d.cal gd (by decide) rfl (ra_cons (re_var 0) (ra_cons (re_var 2) ra_nil)))) (rss_cons (rs_set 3 hN (re_f (t_bounds_around g) d.cal gd (by decide) rfl (ra_cons (re_var 0) (ra_cons (re_var 1) (ra_cons (re_var 2) ra_nil))))) (rss_cons (rs_if (rt_cmp c_isn (re_var 3) re_non) (rss_one (rs_ret (re_tup ra_nil))) rss_nil) (rss_cons (rs_set 4 hN (re_f (t_layers_in g) d.cal gd (by decide) rfl (ra_cons (re_var 0) (ra_cons (re_ix (re_var 3) re_int) (ra_cons (re_ix (re_var 3) re_int) ra_nil))))) (rss_one (rs_ret (re_callTy b_tuple rfl (g.free 38) (by decide +kernel) (ra_cons (re_n (rn_comp [("k", 5), ("layer", 6)] rfl hN (ri_enum rfl (g.free 47) (ra_cons (re_var 4) ra_nil)) (blkOk_by (by kernel_rfl)) (by decide) (fun _ _ _ _ _ => (rg_tup 2 rfl (rgs_cons (rg_name 5 hN) (rgs_cons (rg_name 6 hN) rgs_nil)))) (fun _ _ _ _ _ => (rts_one (rt_cmp (c_eq d.u64) (re_var 6) (re_ix (re_var 4) (re_bin o_sub (re_var 2) (re_ix (re_var 3) re_int)))))) (fun _ _ _ _ _ => (re_bin o_add (re_ix (re_var 3) re_int) (re_var 5))))) ra_nil))))))))))) (fun kV doc pm an cdv ct us h => by
    match us, h with
    | [u0, u1, u2], _ => rfl)
theorem k_rows_of_layer_row_carets_text (g : Gd Hd.fa Hd.fn Hd.ex K mg base) : Fnkp P w K mg base 7 "rows_of_layer" ["row", "carets", "text"] [2, 1, 0] M_rows_of_layer := by
  have hN : (["text", "carets", "row", "bounds", "layers", "k", "layer"] : List Str).Nodup := by decide +kernel
  obtain ⟨fd, F⟩ := g.says.def_ 20 (d := Hd.d_rows_of_layer) rfl
  exact fnkp_of (ps := ["text", "carets", "row"]) [2, 1, 0] F (g.glo 20) (fnC (N := ["text", "carets", "row", "bounds", "layers", "k", "layer"]) F (scope_ok (by decide +kernel)) fun cdv A outer s g0 H E d gd => (rss_cons (rs_drop (re_f (t_want_text g) d.cal gd (by decide) rfl (ra_cons (re_var 0) ra_nil))) (rss_cons (rs_drop (re_f (t_want_carets g) d.cal gd (by decide) rfl (ra_cons (re_var 0) (ra_cons (re_var 1) ra_nil)))) (rss_cons (rs_drop (re_f (t_want_row g) d.cal gd (by decide) rfl (ra_cons (re_var 0) (ra_cons (re_var 2) ra_nil)))) (rss_cons (rs_set 3 hN (re_f (t_bounds_around g) d.cal gd (by decide) rfl (ra_cons (re_var 0) (ra_cons (re_var 1) (ra_cons (re_var 2) ra_nil))))) (rss_cons (rs_if (rt_cmp c_isn (re_var 3) re_non) (rss_one (rs_ret (re_tup ra_nil))) rss_nil) (rss_cons (rs_set 4 hN (re_f (t_layers_in g) d.cal gd (by decide) rfl (ra_cons (re_var 0) (ra_cons (re_ix (re_var 3) re_int) (ra_cons (re_ix (re_var 3) re_int) ra_nil))))) (rss_one (rs_ret (re_callTy b_tuple rfl (g.free 38) (by decide +kernel) (ra_cons (re_n (rn_comp [("k", 5), ("layer", 6)] rfl hN (ri_enum rfl (g.free 47) (ra_cons (re_var 4) ra_nil)) (blkOk_by (by kernel_rfl)) (by decide) (fun _ _ _ _ _ => (rg_tup 2 rfl (rgs_cons (rg_name 5 hN) (rgs_cons (rg_name 6 hN) rgs_nil)))) (fun _ _ _ _ _ => (rts_one (rt_cmp (c_eq d.u64) (re_var 6) (re_ix (re_var 4) (re_bin o_sub (re_var 2) (re_ix (re_var 3) re_int)))))) (fun _ _ _ _ _ => (re_bin o_add (re_ix (re_var 3) re_int) (re_var 5))))) ra_nil))))))))))) rfl (by decide) (fun kV doc pm an cdv ct us h => by
    match us, h with
    | [u0, u1, u2], _ => rfl)
def b__law_feed : SM := (sRet (eFeed (nCL (L1N listN) (aCons (eSl (eVar 0) pNo (pSome (eC (.int 63)))) aNil))))
def M__law_feed : List D → M D := runB 1 b__law_feed
theorem t__law_feed (g : Gd Hd.fa Hd.fn Hd.ex K mg base) : Fnc P w K mg base 1 "_law_feed" 1 M__law_feed := by
  have hN : (["_law_script"] : List Str).Nodup := by decide +kernel
  obtain ⟨fd, F⟩ := g.says.def_ 21 (d := Hd.d__law_feed) rfl
  exact fnc_of (ps := ["_law_script"]) F (g.glo 21) rfl (fnC (N := ["_law_script"]) F (scope_ok (by decide +kernel)) fun cdv A outer s g0 H E d gd => (rss_one (rs_ret (re_feed (rn_callTy b_list rfl (g.free 39) (by decide +kernel) (ra_cons (re_sl (re_var 0) ro_no (ro_some re_int)) ra_nil)))))) (fun kV doc pm an cdv ct us h => by
    match us, h with
    | [u0], _ => rfl)
def b__law_stand : SM := (sSeq (sPar3 1 2 3 (lV (eN (nLst (aCons (eUn negM (eC (.int 1))) aNil))) (lO (nLst aNil) (lD0 lNil)))) (sSeq (sFor (iR1 (aCons (eCL (L1 lenM) (aCons (eVar 0) aNil)) aNil)) (gN 4) (sSeq (sApp 2 (eCL (L1 tupleM) (aCons (eVar 1) aNil))) (sSeq (sIf (tV (eBin eqM (eBin idxM (eBin idxM (eVar 0) (eVar 4)) (eC (.int 0))) (eC (.str "open")))) (sSet 1 (eBin addM (eVar 1) (eN (nLst (aCons (eVar 4) aNil))))) sNil) (sIf (tV (eBin eqM (eBin idxM (eBin idxM (eVar 0) (eVar 4)) (eC (.int 0))) (eC (.str "end")))) (sSeq (sPutO 3 (eBin idxM (eVar 1) (eUn negM (eC (.int 1)))) (eVar 4)) (sSet 1 (eIf (tV (eBin gtM (eCL (L1 lenM) (aCons (eVar 1) aNil)) (eC (.int 1)))) (eSl (eVar 1) pNo (pSome (eUn negM (eC (.int 1))))) (eN (nLst (aCons (eVar 4) aNil)))))) sNil)))) (sFrzD 3 (sFrz 2 (sRet (eTup (aCons (eVar 2) (aCons (eVar 3) aNil))))))))
def M__law_stand : List D → M D := runB 5 b__law_stand
theorem t__law_stand (g : Gd Hd.fa Hd.fn Hd.ex K mg base) : Fnc P w K mg base 1 "_law_stand" 1 M__law_stand := by
  have hN : (["_law_page_here", "_law_stack", "_law_around", "_law_ends", "_law_k"] : List Str).Nodup := by decide +kernel
  obtain ⟨fd, F⟩ := g.says.def_ 23 (d := Hd.d__law_stand) rfl
  exact fnc_of (ps := ["_law_page_here"]) F (g.glo 23) rfl (fnC (N := ["_law_page_here", "_law_stack", "_law_around", "_law_ends", "_law_k"]) F (scope_ok (by decide +kernel)) fun cdv A outer s g0 H E d gd => (rss_cons (rs_par3 1 2 3 rfl hN (rl_v (re_n (rn_lst (ra_cons (re_un u_neg re_int) ra_nil))) (rl_own (rn_lst ra_nil) (rl_dic0 rl_nil)))) (rss_cons (rs_for d.po rfl (ri_range1 rfl (g.free 42) (ra_cons (re_callB b_len rfl (g.free 34) (by decide +kernel) (ra_cons (re_var 0) ra_nil)) ra_nil)) (rg_name 4 hN) (rss_cons (rs_append 2 (re_callTy b_tuple rfl (g.free 38) (by decide +kernel) (ra_cons (re_var 1) ra_nil))) (rss_cons (rs_if (rt_cmp (c_eq d.u64) (re_ix (re_ix (re_var 0) (re_var 4)) re_int) re_str) (rss_one (rs_set 1 hN (re_bin o_add (re_var 1) (re_n (rn_lst (ra_cons (re_var 4) ra_nil)))))) rss_nil) (rss_one (rs_if (rt_cmp (c_eq d.u64) (re_ix (re_ix (re_var 0) (re_var 4)) re_int) re_str) (rss_cons (rs_putO 3 d.units (re_ix (re_var 1) (re_un u_neg re_int)) (re_var 4)) (rss_one (rs_set 1 hN (re_if (rt_cmp c_gt (re_callB b_len rfl (g.free 34) (by decide +kernel) (ra_cons (re_var 1) ra_nil)) re_int) (re_sl (re_var 1) ro_no (ro_some (re_un u_neg re_int))) (re_n (rn_lst (ra_cons (re_var 4) ra_nil))))))) rss_nil))))) (rss_one (rs_frzD 3 (rs_frz 2 (rs_ret (re_tup (ra_cons (re_var 2) (ra_cons (re_var 3) ra_nil)))))))))) (fun kV doc pm an cdv ct us h => by
    match us, h with
    | [u0], _ => rfl)
def b__law_menu : SM := (sSeq (sOwn 1 (nLst (aCons (eTup (aCons (eN (nLst (aCons (eC (.str "x")) (aCons (eC (.str "y")) aNil)))) (aCons (eN (nLst (aCons (eC (.str "a")) (aCons (eC (.str "b")) (aCons (eC (.str "c")) aNil))))) aNil))) (aCons (eTup (aCons (eN (nLst (aCons (eC (.str "let")) (aCons (eC (.str "end")) aNil)))) (aCons (eN (nLst (aCons (eC (.str "num")) (aCons (eC (.str "text")) (aCons (eC (.str "x")) aNil))))) aNil))) aNil)))) (sSeq (sApp 1 (eTup (aCons (eN (nLst (aCons (eC (.str "abcdefgh")) (aCons (eC (.str "a")) aNil)))) (aCons (eN (nLst (aCons (eC (.str "a")) (aCons (eC (.str "zzzzzzzz")) (aCons (eC (.str "fun")) aNil))))) aNil)))) (sFrz 1 (sRet (eBin idxM (eVar 1) (eF 2 M__law_draw (aCons (eVar 0) (aCons (eCL (L1 lenM) (aCons (eVar 1) aNil)) aNil))))))))
def M__law_menu : List D → M D := runB 2 b__law_menu
theorem t__law_menu (g : Gd Hd.fa Hd.fn Hd.ex K mg base) : Fnc P w K mg base 2 "_law_menu" 1 M__law_menu := by
  have hN : (["_law_feed_here", "_law_menu_in"] : List Str).Nodup := by decide +kernel
  obtain ⟨fd, F⟩ := g.says.def_ 24 (d := Hd.d__law_menu) rfl
  exact fnc_of (ps := ["_law_feed_here"]) F (g.glo 24) rfl (fnC (N := ["_law_feed_here", "_law_menu_in"]) F (scope_ok (by decide +kernel)) fun cdv A outer s g0 H E d gd => (rss_cons (rs_own 1 hN (rn_lst (ra_cons (re_tup (ra_cons (re_n (rn_lst (ra_cons re_str (ra_cons re_str ra_nil)))) (ra_cons (re_n (rn_lst (ra_cons re_str (ra_cons re_str (ra_cons re_str ra_nil))))) ra_nil))) (ra_cons (re_tup (ra_cons (re_n (rn_lst (ra_cons re_str (ra_cons re_str ra_nil)))) (ra_cons (re_n (rn_lst (ra_cons re_str (ra_cons re_str (ra_cons re_str ra_nil))))) ra_nil))) ra_nil)))) (rss_cons (rs_append 1 (re_tup (ra_cons (re_n (rn_lst (ra_cons re_str (ra_cons re_str ra_nil)))) (ra_cons (re_n (rn_lst (ra_cons re_str (ra_cons re_str (ra_cons re_str ra_nil))))) ra_nil)))) (rss_one (rs_frz 1 (rs_ret (re_ix (re_var 1) (re_f (t__law_draw g) d.cal gd (by decide) rfl (ra_cons (re_var 0) (ra_cons (re_callB b_len rfl (g.free 34) (by decide +kernel) (ra_cons (re_var 1) ra_nil)) ra_nil)))))))))) (fun kV doc pm an cdv ct us h => by
    match us, h with
    | [u0], _ => rfl)
def b__law_sort : SM := (sRet (eBin idxM (eBin addM (eBin addM (eN (nLst (aCons (eC (.str "if")) (aCons (eC (.str "loop")) aNil)))) (eN (nComp [2] (iR1 (aCons (eC (.int 2)) aNil)) (gN 2) tYesM (eTup (aCons (eC (.str "fun")) (aCons (eBin idxM (eVar 1) (eVar 2)) aNil)))))) (eN (nLst (aCons (eTup (aCons (eC (.str "fun")) (aCons (eC (.str "")) aNil))) aNil)))) (eF 2 M__law_draw (aCons (eVar 0) (aCons (eC (.int 5)) aNil)))))
def M__law_sort : List D → M D := runB 3 b__law_sort
theorem t__law_sort (g : Gd Hd.fa Hd.fn Hd.ex K mg base) : Fnc P w K mg base 2 "_law_sort" 2 M__law_sort := by
  have hN : (["_law_feed_here", "_law_kinds", "_law_k"] : List Str).Nodup := by decide +kernel
  obtain ⟨fd, F⟩ := g.says.def_ 25 (d := Hd.d__law_sort) rfl
  exact fnc_of (ps := ["_law_feed_here", "_law_kinds"]) F (g.glo 25) rfl (fnC (N := ["_law_feed_here", "_law_kinds", "_law_k"]) F (scope_ok (by decide +kernel)) fun cdv A outer s g0 H E d gd => (rss_one (rs_ret (re_ix (re_bin o_add (re_bin o_add (re_n (rn_lst (ra_cons re_str (ra_cons re_str ra_nil)))) (re_n (rn_comp [("_law_k", 2)] rfl hN (ri_range1 rfl (g.free 42) (ra_cons re_int ra_nil)) (blkOk_by (by kernel_rfl)) (by decide) (fun _ _ _ _ _ => (rg_name 2 hN)) (fun _ _ _ _ _ => rts_nil) (fun _ _ _ _ _ => (re_tup (ra_cons re_str (ra_cons (re_ix (re_var 1) (re_var 2)) ra_nil))))))) (re_n (rn_lst (ra_cons (re_tup (ra_cons re_str (ra_cons re_str ra_nil))) ra_nil)))) (re_f (t__law_draw g) d.cal gd (by decide) rfl (ra_cons (re_var 0) (ra_cons re_int ra_nil))))))) (fun kV doc pm an cdv ct us h => by
    match us, h with
    | [u0, u1], _ => rfl)
def b__law_item : SM := (sSeq (sPar 4 5 (aCons (eBin idxM (eVar 1) (eCL (L1 intM) (aCons (eBin eqM (eF 2 M__law_draw (aCons (eVar 0) (aCons (eC (.int 4)) aNil))) (eC (.int 0))) aNil))) (aCons (eBin idxM (eVar 2) (eF 2 M__law_draw (aCons (eVar 0) (aCons (eC (.int 3)) aNil)))) aNil))) (sSeq (sOwn 6 (nLst (aCons (eTup (aCons (eC (.str "use")) (aCons (eVar 4) (aCons (eVar 5) aNil)))) (aCons (eTup (aCons (eC (.str "use")) (aCons (eVar 4) (aCons (eVar 5) aNil)))) (aCons (eTup (aCons (eC (.str "let")) (aCons (eVar 4) (aCons (eVar 5) aNil)))) (aCons (eTup (aCons (eC (.str "let")) (aCons (eVar 4) (aCons (eVar 5) aNil)))) aNil)))))) (sSeq (sApp 6 (eTup (aCons (eC (.str "use")) (aCons (eVar 4) (aCons (eBin idxM (eVar 2) (eC (.int 0))) aNil))))) (sSeq (sSet 7 (eN (nLst (aCons (eTup (aCons (eC (.str "give")) (aCons (eVar 5) aNil))) (aCons (eTup (aCons (eC (.str "give")) (aCons (eVar 5) aNil))) (aCons (eTup (aCons (eC (.str "stop")) aNil)) (aCons (eTup (aCons (eC (.str "stop")) aNil)) (aCons (eTup (aCons (eC (.str "give")) (aCons (eC (.str "")) aNil))) aNil)))))))) (sSeq (sFrz 6 (sSet 8 (eBin idxM (eN (nLst (aCons (eVar 6) (aCons (eVar 7) (aCons (eBin addM (eVar 6) (eVar 7)) aNil))))) (eVar 3)))) (sRet (eBin idxM (eVar 8) (eF 2 M__law_draw (aCons (eVar 0) (aCons (eCL (L1 lenM) (aCons (eVar 8) aNil)) aNil))))))))))
def M__law_item : List D → M D := runB 9 b__law_item
theorem t__law_item (g : Gd Hd.fa Hd.fn Hd.ex K mg base) : Fnc P w K mg base 2 "_law_item" 4 M__law_item := by
  have hN : (["_law_feed_here", "_law_names", "_law_kinds", "_law_taste", "_law_x", "_law_kind_in", "_law_by_name", "_law_by_fun", "_law_menu_in"] : List Str).Nodup := by decide +kernel
  obtain ⟨fd, F⟩ := g.says.def_ 26 (d := Hd.d__law_item) rfl
  exact fnc_of (ps := ["_law_feed_here", "_law_names", "_law_kinds", "_law_taste"]) F (g.glo 26) rfl (fnC (N := ["_law_feed_here", "_law_names", "_law_kinds", "_law_taste", "_law_x", "_law_kind_in", "_law_by_name", "_law_by_fun", "_law_menu_in"]) F (scope_ok (by decide +kernel)) fun cdv A outer s g0 H E d gd => (rss_cons (rs_par 4 5 rfl hN (ra_cons (re_ix (re_var 1) (re_callTy b_int rfl (g.free 43) (by decide +kernel) (ra_cons (re_cmp (c_eq d.u64) (re_f (t__law_draw g) d.cal gd (by decide) rfl (ra_cons (re_var 0) (ra_cons re_int ra_nil))) re_int) ra_nil))) (ra_cons (re_ix (re_var 2) (re_f (t__law_draw g) d.cal gd (by decide) rfl (ra_cons (re_var 0) (ra_cons re_int ra_nil)))) ra_nil))) (rss_cons (rs_own 6 hN (rn_lst (ra_cons (re_tup (ra_cons re_str (ra_cons (re_var 4) (ra_cons (re_var 5) ra_nil)))) (ra_cons (re_tup (ra_cons re_str (ra_cons (re_var 4) (ra_cons (re_var 5) ra_nil)))) (ra_cons (re_tup (ra_cons re_str (ra_cons (re_var 4) (ra_cons (re_var 5) ra_nil)))) (ra_cons (re_tup (ra_cons re_str (ra_cons (re_var 4) (ra_cons (re_var 5) ra_nil)))) ra_nil)))))) (rss_cons (rs_append 6 (re_tup (ra_cons re_str (ra_cons (re_var 4) (ra_cons (re_ix (re_var 2) re_int) ra_nil))))) (rss_cons (rs_set 7 hN (re_n (rn_lst (ra_cons (re_tup (ra_cons re_str (ra_cons (re_var 5) ra_nil))) (ra_cons (re_tup (ra_cons re_str (ra_cons (re_var 5) ra_nil))) (ra_cons (re_tup (ra_cons re_str ra_nil)) (ra_cons (re_tup (ra_cons re_str ra_nil)) (ra_cons (re_tup (ra_cons re_str (ra_cons re_str ra_nil))) ra_nil)))))))) (rss_cons (rs_frz 6 (rs_set 8 hN (re_ix (re_n (rn_lst (ra_cons (re_var 6) (ra_cons (re_var 7) (ra_cons (re_bin o_add (re_var 6) (re_var 7)) ra_nil))))) (re_var 3)))) (rss_one (rs_ret (re_ix (re_var 8) (re_f (t__law_draw g) d.cal gd (by decide) rfl (ra_cons (re_var 0) (ra_cons (re_callB b_len rfl (g.free 34) (by decide +kernel) (ra_cons (re_var 8) ra_nil)) ra_nil)))))))))))) (fun kV doc pm an cdv ct us h => by
    match us, h with
    | [u0, u1, u2, u3], _ => rfl)
def b__law_page : SM := (sSeq (sAsg (gTn 2 (gAll1 (gN 1) (gAll1 (gN 2) gAll0))) (eF 1 M__law_menu (aCons (eVar 0) aNil))) (sSeq (sPar2 3 4 (lV (eF 2 M__law_draw (aCons (eVar 0) (aCons (eC (.int 3)) aNil))) (lO (nLst aNil) lNil))) (sSeq (sFor (iR1 (aCons (eF 2 M__law_draw (aCons (eVar 0) (aCons (eC (.int 5)) aNil))) aNil)) (gN 5) (sSeq (sSet 8 (eIf (tV (eBin neM (eVar 3) (eC (.int 1)))) (eF 2 M__law_sort (aCons (eVar 0) (aCons (eVar 2) aNil))) (eTup (aCons (eC (.str "fun")) (aCons (eBin idxM (eBin addM (eVar 2) (eN (nLst (aCons (eC (.str "")) aNil)))) (eF 2 M__law_draw (aCons (eVar 0) (aCons (eC (.int 4)) aNil)))) aNil))))) (sSeq (sApp 4 (eTup (aCons (eC (.str "open")) (aCons (eVar 8) aNil)))) (sIf (tAndM (tV (eBin gtM (eF 2 M__law_draw (aCons (eVar 0) (aCons (eC (.int 3)) aNil))) (eC (.int 0)))) (tV (eBin neM (eVar 3) (eC (.int 1))))) (sApp 4 (eTup (aCons (eC (.str "let")) (aCons (eBin idxM (eVar 1) (eC (.int 0))) (aCons (eBin idxM (eVar 2) (eF 2 M__law_draw (aCons (eVar 0) (aCons (eC (.int 2)) aNil)))) aNil))))) sNil)))) (sSeq (sSet 6 (eLenO 4)) (sSeq (sFor (iR1 (aCons (eBin addM (eC (.int 1)) (eF 2 M__law_draw (aCons (eVar 0) (aCons (eC (.int 4)) aNil)))) aNil)) (gN 5) (sSeq (sFor (iR1 (aCons (eF 2 M__law_draw (aCons (eVar 0) (aCons (eC (.int 4)) aNil))) aNil)) (gN 7) (sSeq (sPar 9 10 (aCons (eF 4 M__law_item (aCons (eVar 0) (aCons (eVar 1) (aCons (eVar 2) (aCons (eVar 3) aNil))))) (aCons (eF 2 M__law_draw (aCons (eVar 0) (aCons (eC (.int 8)) aNil))) aNil))) (sSeq (sIf (tV (eBin eqM (eVar 10) (eC (.int 0)))) (sApp 4 (eTup (aCons (eC (.str "open")) (aCons (eF 2 M__law_sort (aCons (eVar 0) (aCons (eVar 2) aNil))) aNil)))) sNil) (sSeq (sApp 4 (eVar 9)) (sIf (tV (eBin eqM (eVar 10) (eC (.int 0)))) (sApp 4 (eTup (aCons (eC (.str "end")) aNil))) sNil))))) (sIf (tV (eBin gtM (eF 2 M__law_draw (aCons (eVar 0) (aCons (eC (.int 6)) aNil))) (eC (.int 0)))) (sApp 4 (eTup (aCons (eC (.str "end")) aNil))) sNil))) (sSeq (sFor (iR1 (aCons (eF 2 M__law_draw (aCons (eVar 0) (aCons (eC (.int 3)) aNil))) aNil)) (gN 7) (sApp 4 (eF 4 M__law_item (aCons (eVar 0) (aCons (eVar 1) (aCons (eVar 2) (aCons (eVar 3) aNil))))))) (sFrz 4 (sRet (eTup (aCons (eCL (L1 tupleM) (aCons (eVar 4) aNil)) (aCons (eVar 6) aNil)))))))))))
def M__law_page : List D → M D := runB 11 b__law_page
theorem t__law_page (g : Gd Hd.fa Hd.fn Hd.ex K mg base) : Fnc P w K mg base 3 "_law_page" 1 M__law_page := by
  have hN : (["_law_feed_here", "_law_names", "_law_kinds", "_law_taste", "_law_page_here", "_law_lap", "_law_cut", "_law_step", "_law_sort_here", "_law_item_here", "_law_way_in"] : List Str).Nodup := by decide +kernel
  obtain ⟨fd, F⟩ := g.says.def_ 27 (d := Hd.d__law_page) rfl
  exact fnc_of (ps := ["_law_feed_here"]) F (g.glo 27) rfl (fnC (N := ["_law_feed_here", "_law_names", "_law_kinds", "_law_taste", "_law_page_here", "_law_lap", "_law_cut", "_law_step", "_law_sort_here", "_law_item_here", "_law_way_in"]) F (scope_ok (by decide +kernel)) fun cdv A outer s g0 H E d gd => (rss_cons (rs_asg (re_f (t__law_menu g) d.cal gd (by decide) rfl (ra_cons (re_var 0) ra_nil)) (rg_tup 2 rfl (rgs_cons (rg_name 1 hN) (rgs_cons (rg_name 2 hN) rgs_nil)))) (rss_cons (rs_par2 3 4 rfl hN (rl_v (re_f (t__law_draw g) d.cal gd (by decide) rfl (ra_cons (re_var 0) (ra_cons re_int ra_nil))) (rl_own (rn_lst ra_nil) rl_nil))) (rss_cons (rs_for d.po rfl (ri_range1 rfl (g.free 42) (ra_cons (re_f (t__law_draw g) d.cal gd (by decide) rfl (ra_cons (re_var 0) (ra_cons re_int ra_nil))) ra_nil)) (rg_name 5 hN) (rss_cons (rs_set 8 hN (re_if (rt_cmp (c_ne d.u64) (re_var 3) re_int) (re_f (t__law_sort g) d.cal gd (by decide) rfl (ra_cons (re_var 0) (ra_cons (re_var 2) ra_nil))) (re_tup (ra_cons re_str (ra_cons (re_ix (re_bin o_add (re_var 2) (re_n (rn_lst (ra_cons re_str ra_nil)))) (re_f (t__law_draw g) d.cal gd (by decide) rfl (ra_cons (re_var 0) (ra_cons re_int ra_nil)))) ra_nil))))) (rss_cons (rs_append 4 (re_tup (ra_cons re_str (ra_cons (re_var 8) ra_nil)))) (rss_one (rs_if (RW.rt (rw_and (rt_cmp c_gt (re_f (t__law_draw g) d.cal gd (by decide) rfl (ra_cons (re_var 0) (ra_cons re_int ra_nil))) re_int) (rw_and1 (rt_cmp (c_ne d.u64) (re_var 3) re_int)))) (rss_one (rs_append 4 (re_tup (ra_cons re_str (ra_cons (re_ix (re_var 1) re_int) (ra_cons (re_ix (re_var 2) (re_f (t__law_draw g) d.cal gd (by decide) rfl (ra_cons (re_var 0) (ra_cons re_int ra_nil)))) ra_nil)))))) rss_nil))))) (rss_cons (rs_set 6 hN (re_lenO 4 rfl (g.free 34))) (rss_cons (rs_for d.po rfl (ri_range1 rfl (g.free 42) (ra_cons (re_bin o_add re_int (re_f (t__law_draw g) d.cal gd (by decide) rfl (ra_cons (re_var 0) (ra_cons re_int ra_nil)))) ra_nil)) (rg_name 5 hN) (rss_cons (rs_for d.po rfl (ri_range1 rfl (g.free 42) (ra_cons (re_f (t__law_draw g) d.cal gd (by decide) rfl (ra_cons (re_var 0) (ra_cons re_int ra_nil))) ra_nil)) (rg_name 7 hN) (rss_cons (rs_par 9 10 rfl hN (ra_cons (re_f (t__law_item g) d.cal gd (by decide) rfl (ra_cons (re_var 0) (ra_cons (re_var 1) (ra_cons (re_var 2) (ra_cons (re_var 3) ra_nil))))) (ra_cons (re_f (t__law_draw g) d.cal gd (by decide) rfl (ra_cons (re_var 0) (ra_cons re_int ra_nil))) ra_nil))) (rss_cons (rs_if (rt_cmp (c_eq d.u64) (re_var 10) re_int) (rss_one (rs_append 4 (re_tup (ra_cons re_str (ra_cons (re_f (t__law_sort g) d.cal gd (by decide) rfl (ra_cons (re_var 0) (ra_cons (re_var 2) ra_nil))) ra_nil))))) rss_nil) (rss_cons (rs_append 4 (re_var 9)) (rss_one (rs_if (rt_cmp (c_eq d.u64) (re_var 10) re_int) (rss_one (rs_append 4 (re_tup (ra_cons re_str ra_nil)))) rss_nil)))))) (rss_one (rs_if (rt_cmp c_gt (re_f (t__law_draw g) d.cal gd (by decide) rfl (ra_cons (re_var 0) (ra_cons re_int ra_nil))) re_int) (rss_one (rs_append 4 (re_tup (ra_cons re_str ra_nil)))) rss_nil)))) (rss_cons (rs_for d.po rfl (ri_range1 rfl (g.free 42) (ra_cons (re_f (t__law_draw g) d.cal gd (by decide) rfl (ra_cons (re_var 0) (ra_cons re_int ra_nil))) ra_nil)) (rg_name 7 hN) (rss_one (rs_append 4 (re_f (t__law_item g) d.cal gd (by decide) rfl (ra_cons (re_var 0) (ra_cons (re_var 1) (ra_cons (re_var 2) (ra_cons (re_var 3) ra_nil)))))))) (rss_one (rs_frz 4 (rs_ret (re_tup (ra_cons (re_callTy b_tuple rfl (g.free 38) (by decide +kernel) (ra_cons (re_var 4) ra_nil)) (ra_cons (re_var 6) ra_nil))))))))))))) (fun kV doc pm an cdv ct us h => by
    match us, h with
    | [u0], _ => rfl)
def b__law_marks : SM := (sSeq (sPar 3 4 (aCons (eBin addM (eCL (L1 lenM) (aCons (eVar 1) aNil)) (eC (.int 1))) (aCons (eF 2 M__law_draw (aCons (eVar 0) (aCons (eC (.int 8)) aNil))) aNil))) (sSeq (sIf (tV (eBin ltM (eVar 4) (eC (.int 4)))) (sRet (eTup (aCons (eVar 2) aNil))) sNil) (sSeq (sSet 5 (eN (nLst (aCons (eF 2 M__law_draw (aCons (eVar 0) (aCons (eVar 3) aNil))) (aCons (eF 2 M__law_draw (aCons (eVar 0) (aCons (eVar 3) aNil))) aNil))))) (sSeq (sIf (tV (eBin eqM (eVar 4) (eC (.int 4)))) (sRet (eCL (L1 tupleM) (aCons (eN (nUn sSetN (eBin addM (eN (nLst (aCons (eVar 2) aNil))) (eSl (eVar 5) pNo (pSome (eC (.int 1))))))) aNil))) sNil) (sSeq (sIf (tV (eBin eqM (eVar 4) (eC (.int 5)))) (sRet (eCL (L1 tupleM) (aCons (eN (nUn sSetN (eBin addM (eN (nLst (aCons (eVar 2) aNil))) (eVar 5)))) aNil))) sNil) (sSeq (sIf (tV (eBin eqM (eVar 4) (eC (.int 6)))) (sRet (eBin idxM (eN (nLst (aCons (eTR3 (aCons (eC (.int 0)) (aCons (eVar 3) (aCons (eBin addM (eC (.int 1)) (eBin fdivM (eVar 3) (eC (.int 12)))) aNil)))) (aCons (eTup aNil) aNil)))) (eF 2 M__law_draw (aCons (eVar 0) (aCons (eC (.int 2)) aNil))))) sNil) (sRet (eCL (L1 tupleM) (aCons (eN (nUn sSetN (eVar 5))) aNil)))))))))
def M__law_marks : List D → M D := runB 6 b__law_marks
theorem t__law_marks (g : Gd Hd.fa Hd.fn Hd.ex K mg base) : Fnc P w K mg base 2 "_law_marks" 3 M__law_marks := by
  have hN : (["_law_feed_here", "_law_page_here", "_law_cut", "_law_many", "_law_way_in", "_law_more"] : List Str).Nodup := by decide +kernel
  obtain ⟨fd, F⟩ := g.says.def_ 28 (d := Hd.d__law_marks) rfl
  exact fnc_of (ps := ["_law_feed_here", "_law_page_here", "_law_cut"]) F (g.glo 28) rfl (fnC (N := ["_law_feed_here", "_law_page_here", "_law_cut", "_law_many", "_law_way_in", "_law_more"]) F (scope_ok (by decide +kernel)) fun cdv A outer s g0 H E d gd => (rss_cons (rs_par 3 4 rfl hN (ra_cons (re_bin o_add (re_callB b_len rfl (g.free 34) (by decide +kernel) (ra_cons (re_var 1) ra_nil)) re_int) (ra_cons (re_f (t__law_draw g) d.cal gd (by decide) rfl (ra_cons (re_var 0) (ra_cons re_int ra_nil))) ra_nil))) (rss_cons (rs_if (rt_cmp c_lt (re_var 4) re_int) (rss_one (rs_ret (re_tup (ra_cons (re_var 2) ra_nil)))) rss_nil) (rss_cons (rs_set 5 hN (re_n (rn_lst (ra_cons (re_f (t__law_draw g) d.cal gd (by decide) rfl (ra_cons (re_var 0) (ra_cons (re_var 3) ra_nil))) (ra_cons (re_f (t__law_draw g) d.cal gd (by decide) rfl (ra_cons (re_var 0) (ra_cons (re_var 3) ra_nil))) ra_nil))))) (rss_cons (rs_if (rt_cmp (c_eq d.u64) (re_var 4) re_int) (rss_one (rs_ret (re_callTy b_tuple rfl (g.free 38) (by decide +kernel) (ra_cons (re_n (rn_sortedSet rfl (re_bin o_add (re_n (rn_lst (ra_cons (re_var 2) ra_nil))) (re_sl (re_var 5) ro_no (ro_some re_int))) rfl (g.free 40) rfl (g.free 41))) ra_nil)))) rss_nil) (rss_cons (rs_if (rt_cmp (c_eq d.u64) (re_var 4) re_int) (rss_one (rs_ret (re_callTy b_tuple rfl (g.free 38) (by decide +kernel) (ra_cons (re_n (rn_sortedSet rfl (re_bin o_add (re_n (rn_lst (ra_cons (re_var 2) ra_nil))) (re_var 5)) rfl (g.free 40) rfl (g.free 41))) ra_nil)))) rss_nil) (rss_cons (rs_if (rt_cmp (c_eq d.u64) (re_var 4) re_int) (rss_one (rs_ret (re_ix (re_n (rn_lst (ra_cons (re_tupRg3 rfl (ra_cons re_int (ra_cons (re_var 3) (ra_cons (re_bin o_add re_int (re_bin o_fdiv (re_var 3) re_int)) ra_nil))) rfl (g.free 38) rfl (g.free 42)) (ra_cons (re_tup ra_nil) ra_nil)))) (re_f (t__law_draw g) d.cal gd (by decide) rfl (ra_cons (re_var 0) (ra_cons re_int ra_nil)))))) rss_nil) (rss_one (rs_ret (re_callTy b_tuple rfl (g.free 38) (by decide +kernel) (ra_cons (re_n (rn_sortedSet rfl (re_var 5) rfl (g.free 40) rfl (g.free 41))) ra_nil))))))))))) (fun kV doc pm an cdv ct us h => by
    match us, h with
    | [u0, u1, u2], _ => rfl)
def b__law_segment : SM := (sSeq (sPar 3 4 (aCons (eN (nComp [5] (iAny (eVar 1)) (gN 5) (tV (eBin leM (eVar 5) (eVar 2))) (eVar 5))) (aCons (eN (nComp [5] (iAny (eVar 1)) (gN 5) (tV (eBin gtM (eVar 5) (eVar 2))) (eVar 5))) aNil))) (sSeq (sIf (tV (eBin eqM (eVar 3) (eN (nLst aNil)))) (sRet (eC .non)) sNil) (sRet (eTup (aCons (eBin idxM (eVar 3) (eUn negM (eC (.int 1)))) (aCons (eIf (tV (eBin neM (eVar 4) (eN (nLst aNil)))) (eBin subM (eBin idxM (eVar 4) (eC (.int 0))) (eC (.int 1))) (eBin subM (eCL (L1 lenM) (aCons (eVar 0) aNil)) (eC (.int 1)))) aNil))))))
def M__law_segment : List D → M D := runB 6 b__law_segment
theorem t__law_segment (g : Gd Hd.fa Hd.fn Hd.ex K mg base) : Fnc P w K mg base 1 "_law_segment" 3 M__law_segment := by
  have hN : (["_law_page_here", "_law_marks_here", "_law_k", "_law_ahead", "_law_behind", "_law_c"] : List Str).Nodup := by decide +kernel
  obtain ⟨fd, F⟩ := g.says.def_ 29 (d := Hd.d__law_segment) rfl
  exact fnc_of (ps := ["_law_page_here", "_law_marks_here", "_law_k"]) F (g.glo 29) rfl (fnC (N := ["_law_page_here", "_law_marks_here", "_law_k", "_law_ahead", "_law_behind", "_law_c"]) F (scope_ok (by decide +kernel)) fun cdv A outer s g0 H E d gd => (rss_cons (rs_par 3 4 rfl hN (ra_cons (re_n (rn_comp [("_law_c", 5)] rfl hN (ri_any (re_var 1)) (blkOk_by (by kernel_rfl)) (by decide) (fun _ _ _ _ _ => (rg_name 5 hN)) (fun _ _ _ _ _ => (rts_one (rt_cmp c_le (re_var 5) (re_var 2)))) (fun _ _ _ _ _ => (re_var 5)))) (ra_cons (re_n (rn_comp [("_law_c", 5)] rfl hN (ri_any (re_var 1)) (blkOk_by (by kernel_rfl)) (by decide) (fun _ _ _ _ _ => (rg_name 5 hN)) (fun _ _ _ _ _ => (rts_one (rt_cmp c_gt (re_var 5) (re_var 2)))) (fun _ _ _ _ _ => (re_var 5)))) ra_nil))) (rss_cons (rs_if (rt_cmp (c_eq d.u64) (re_var 3) (re_n (rn_lst ra_nil))) (rss_one (rs_ret re_non)) rss_nil) (rss_one (rs_ret (re_tup (ra_cons (re_ix (re_var 3) (re_un u_neg re_int)) (ra_cons (re_if (rt_cmp (c_ne d.u64) (re_var 4) (re_n (rn_lst ra_nil))) (re_bin o_sub (re_ix (re_var 4) re_int) re_int) (re_bin o_sub (re_callB b_len rfl (g.free 34) (by decide +kernel) (ra_cons (re_var 0) ra_nil)) re_int)) ra_nil)))))))) (fun kV doc pm an cdv ct us h => by
    match us, h with
    | [u0, u1, u2], _ => rfl)
def b__law_layer : SM := (sSeq (sSetL 4 (nComp [5] (iR2 (aCons (eVar 2) (aCons (eVar 3) aNil))) (gN 5) (tV (eBin eqM (eBin idxM (eBin idxM (eVar 0) (eVar 5)) (eC (.int 0))) (eC (.str "end")))) (eVar 5))) (sRet (eCL (L1 lenM) (aCons (eN (nComp [5] (iAny (eVar 4)) (gN 5) (tOrM (tV (eBin eqM (eCL (L1 lenM) (aCons (eBin idxM (eVar 1) (eVar 5)) aNil)) (eC (.int 1)))) (tV (eBin ltM (eBin idxM (eBin idxM (eVar 1) (eVar 5)) (eUn negM (eC (.int 1)))) (eVar 2)))) (eVar 5))) aNil))))
def M__law_layer : List D → M D := runB 6 b__law_layer
theorem t__law_layer (g : Gd Hd.fa Hd.fn Hd.ex K mg base) : Fnc P w K mg base 1 "_law_layer" 4 M__law_layer := by
  have hN : (["_law_page_here", "_law_around", "_law_first", "_law_k", "_law_rows", "_law_j"] : List Str).Nodup := by decide +kernel
  obtain ⟨fd, F⟩ := g.says.def_ 30 (d := Hd.d__law_layer) rfl
  exact fnc_of (ps := ["_law_page_here", "_law_around", "_law_first", "_law_k"]) F (g.glo 30) rfl (fnC (N := ["_law_page_here", "_law_around", "_law_first", "_law_k", "_law_rows", "_law_j"]) F (scope_ok (by decide +kernel)) fun cdv A outer s g0 H E d gd => (rss_cons (rs_setC 4 [("_law_j", 5)] rfl hN (ri_range2 rfl (g.free 42) (ra_cons (re_var 2) (ra_cons (re_var 3) ra_nil))) (blkOk_by (by kernel_rfl)) (by decide) (fun _ _ _ _ _ => (rg_name 5 hN)) (fun _ _ _ _ _ => (rts_one (rt_cmp (c_eq d.u64) (re_ix (re_ix (re_var 0) (re_var 5)) re_int) re_str))) (fun _ _ _ _ _ => (re_var 5))) (rss_one (rs_ret (re_callB b_len rfl (g.free 34) (by decide +kernel) (ra_cons (re_n (rn_comp [("_law_j", 5)] rfl hN (ri_any (re_var 4)) (blkOk_by (by kernel_rfl)) (by decide) (fun _ _ _ _ _ => (rg_name 5 hN)) (fun _ _ _ _ _ => (rts_one (RW.rt (rw_or (rt_cmp (c_eq d.u64) (re_callB b_len rfl (g.free 34) (by decide +kernel) (ra_cons (re_ix (re_var 1) (re_var 5)) ra_nil)) re_int) (rw_or1 (rt_cmp c_lt (re_ix (re_ix (re_var 1) (re_var 5)) (re_un u_neg re_int)) (re_var 2))))))) (fun _ _ _ _ _ => (re_var 5)))) ra_nil)))))) (fun kV doc pm an cdv ct us h => by
    match us, h with
    | [u0, u1, u2, u3], _ => rfl)
def b__law_due : SM := (sSeq (sSet 4 (eF 3 M__law_segment (aCons (eVar 0) (aCons (eVar 1) (aCons (eVar 3) aNil))))) (sSeq (sIf (tV (eBin isnM (eVar 4) (eC .non))) (sRet (eN (nLst (aCons (eC .non) (aCons (eC .non) (aCons (eTup aNil) aNil)))))) sNil) (sSeq (sSet 5 (eF 4 M__law_layer (aCons (eVar 0) (aCons (eVar 2) (aCons (eBin idxM (eVar 4) (eC (.int 0))) (aCons (eVar 3) aNil)))))) (sSeq (sSetL 6 (nComp [7] (iR2 (aCons (eBin idxM (eVar 4) (eC (.int 0))) (aCons (eBin addM (eBin idxM (eVar 4) (eC (.int 1))) (eC (.int 1))) aNil))) (gN 7) (tV (eBin eqM (eF 4 M__law_layer (aCons (eVar 0) (aCons (eVar 2) (aCons (eBin idxM (eVar 4) (eC (.int 0))) (aCons (eVar 7) aNil))))) (eVar 5))) (eVar 7))) (sRet (eN (nLst (aCons (eVar 4) (aCons (eVar 5) (aCons (eCL (L1 tupleM) (aCons (eVar 6) aNil)) aNil))))))))))
def M__law_due : List D → M D := runB 8 b__law_due
theorem t__law_due (g : Gd Hd.fa Hd.fn Hd.ex K mg base) : Fnc P w K mg base 2 "_law_due" 4 M__law_due := by
  have hN : (["_law_page_here", "_law_marks_here", "_law_around", "_law_k", "_law_part", "_law_level", "_law_rows", "_law_j"] : List Str).Nodup := by decide +kernel
  obtain ⟨fd, F⟩ := g.says.def_ 31 (d := Hd.d__law_due) rfl
  exact fnc_of (ps := ["_law_page_here", "_law_marks_here", "_law_around", "_law_k"]) F (g.glo 31) rfl (fnC (N := ["_law_page_here", "_law_marks_here", "_law_around", "_law_k", "_law_part", "_law_level", "_law_rows", "_law_j"]) F (scope_ok (by decide +kernel)) fun cdv A outer s g0 H E d gd => (rss_cons (rs_set 4 hN (re_f (t__law_segment g) d.cal gd (by decide) rfl (ra_cons (re_var 0) (ra_cons (re_var 1) (ra_cons (re_var 3) ra_nil))))) (rss_cons (rs_if (rt_cmp c_isn (re_var 4) re_non) (rss_one (rs_ret (re_n (rn_lst (ra_cons re_non (ra_cons re_non (ra_cons (re_tup ra_nil) ra_nil))))))) rss_nil) (rss_cons (rs_set 5 hN (re_f (t__law_layer g) d.cal gd (by decide) rfl (ra_cons (re_var 0) (ra_cons (re_var 2) (ra_cons (re_ix (re_var 4) re_int) (ra_cons (re_var 3) ra_nil)))))) (rss_cons (rs_setC 6 [("_law_j", 7)] rfl hN (ri_range2 rfl (g.free 42) (ra_cons (re_ix (re_var 4) re_int) (ra_cons (re_bin o_add (re_ix (re_var 4) re_int) re_int) ra_nil))) (blkOk_by (by kernel_rfl)) (by decide) (fun _ _ _ _ _ => (rg_name 7 hN)) (fun _ _ _ _ _ => (rts_one (rt_cmp (c_eq d.u64) (re_f (t__law_layer g) (cal_b d.cal _ _ _ _ _) gd (by decide) rfl (ra_cons (re_var 0) (ra_cons (re_var 2) (ra_cons (re_ix (re_var 4) re_int) (ra_cons (re_var 7) ra_nil))))) (re_var 5)))) (fun _ _ _ _ _ => (re_var 7))) (rss_one (rs_ret (re_n (rn_lst (ra_cons (re_var 4) (ra_cons (re_var 5) (ra_cons (re_callTy b_tuple rfl (g.free 38) (by decide +kernel) (ra_cons (re_var 6) ra_nil)) ra_nil)))))))))))) (fun kV doc pm an cdv ct us h => by
    match us, h with
    | [u0, u1, u2, u3], _ => rfl)
def b__law_is_right : SM := (sSeq (sSet 2 (eBin idxM (eF 1 M__law_stand (aCons (eVar 0) aNil)) (eC (.int 0)))) (sSeq (sFor (iR1 (aCons (eCL (L1 lenM) (aCons (eVar 0) aNil)) aNil)) (gN 3) (sSeq (sOwn 4 (nLst (aCons (eF 3 M_segment_of (aCons (eVar 0) (aCons (eVar 1) (aCons (eVar 3) aNil)))) (aCons (eF 3 M_layer_of (aCons (eVar 0) (aCons (eVar 1) (aCons (eVar 3) aNil)))) (aCons (eF 3 M_rows_of_layer (aCons (eVar 0) (aCons (eVar 1) (aCons (eVar 3) aNil)))) aNil))))) (sFrz 4 (sIf (tV (eBin neM (eCL (L1 reprM) (aCons (eVar 4) aNil)) (eCL (L1 reprM) (aCons (eF 4 M__law_due (aCons (eVar 0) (aCons (eVar 1) (aCons (eVar 2) (aCons (eVar 3) aNil))))) aNil)))) (sRet (eC (.bl false))) sNil)))) (sSeq (sFor (iAny (eN (nComp [5] (iAny (eTup (aCons (eC (.int 0)) aNil))) (gN 5) (tV (eBin ltM (eVar 5) (eCL (L1 lenM) (aCons (eVar 0) aNil)))) (eVar 5)))) (gN 3) (sSeq (sOwn 4 (nLst (aCons (eFp 3 [2, 1, 0] M_segment_of (aCons (eVar 3) (aCons (eVar 1) (aCons (eVar 0) aNil)))) (aCons (eFp 3 [2, 1, 0] M_layer_of (aCons (eVar 3) (aCons (eVar 1) (aCons (eVar 0) aNil)))) aNil)))) (sSeq (sApp 4 (eFp 3 [2, 1, 0] M_rows_of_layer (aCons (eVar 3) (aCons (eVar 1) (aCons (eVar 0) aNil))))) (sFrz 4 (sIf (tV (eBin neM (eCL (L1 reprM) (aCons (eVar 4) aNil)) (eCL (L1 reprM) (aCons (eF 4 M__law_due (aCons (eVar 0) (aCons (eVar 1) (aCons (eVar 2) (aCons (eVar 3) aNil))))) aNil)))) (sRet (eC (.bl false))) sNil))))) (sRet (eC (.bl true))))))
def M__law_is_right : List D → M D := runB 6 b__law_is_right
theorem t__law_is_right (g : Gd Hd.fa Hd.fn Hd.ex K mg base) : Fnc P w K mg base 8 "_law_is_right" 2 M__law_is_right := by
  have hN : (["_law_page_here", "_law_marks_here", "_law_around", "_law_k", "_law_told", "_law_own"] : List Str).Nodup := by decide +kernel
  obtain ⟨fd, F⟩ := g.says.def_ 32 (d := Hd.d__law_is_right) rfl
  exact fnc_of (ps := ["_law_page_here", "_law_marks_here"]) F (g.glo 32) rfl (fnC (N := ["_law_page_here", "_law_marks_here", "_law_around", "_law_k", "_law_told", "_law_own"]) F (scope_ok (by decide +kernel)) fun cdv A outer s g0 H E d gd => (rss_cons (rs_set 2 hN (re_ix (re_f (t__law_stand g) d.cal gd (by decide) rfl (ra_cons (re_var 0) ra_nil)) re_int)) (rss_cons (rs_for d.po rfl (ri_range1 rfl (g.free 42) (ra_cons (re_callB b_len rfl (g.free 34) (by decide +kernel) (ra_cons (re_var 0) ra_nil)) ra_nil)) (rg_name 3 hN) (rss_cons (rs_own 4 hN (rn_lst (ra_cons (re_f (t_segment_of g) d.cal gd (by decide) rfl (ra_cons (re_var 0) (ra_cons (re_var 1) (ra_cons (re_var 3) ra_nil)))) (ra_cons (re_f (t_layer_of g) d.cal gd (by decide) rfl (ra_cons (re_var 0) (ra_cons (re_var 1) (ra_cons (re_var 3) ra_nil)))) (ra_cons (re_f (t_rows_of_layer g) d.cal gd (by decide) rfl (ra_cons (re_var 0) (ra_cons (re_var 1) (ra_cons (re_var 3) ra_nil)))) ra_nil))))) (rss_one (rs_frz 4 (rs_if (rt_cmp (c_ne d.u64) (re_callB (b_repr gd d.units) rfl (g.free 46) (by decide +kernel) (ra_cons (re_var 4) ra_nil)) (re_callB (b_repr gd d.units) rfl (g.free 46) (by decide +kernel) (ra_cons (re_f (t__law_due g) d.cal gd (by decide) rfl (ra_cons (re_var 0) (ra_cons (re_var 1) (ra_cons (re_var 2) (ra_cons (re_var 3) ra_nil))))) ra_nil))) (rss_one (rs_ret re_bl)) rss_nil))))) (rss_cons (rs_for d.po rfl (ri_any (re_n (rn_comp [("_law_own", 5)] rfl hN (ri_any (re_tup (ra_cons re_int ra_nil))) (blkOk_by (by kernel_rfl)) (by decide) (fun _ _ _ _ _ => (rg_name 5 hN)) (fun _ _ _ _ _ => (rts_one (rt_cmp c_lt (re_var 5) (re_callB b_len rfl (g.free 34) (by decide +kernel) (ra_cons (re_var 0) ra_nil))))) (fun _ _ _ _ _ => (re_var 5))))) (rg_name 3 hN) (rss_cons (rs_own 4 hN (rn_lst (ra_cons (re_fkp (k_segment_of_row_carets_text g) d.cal gd (by decide) rfl (rk_cons (re_var 3) (rk_cons (re_var 1) (rk_cons (re_var 0) rk_nil)))) (ra_cons (re_fkp (k_layer_of_row_carets_text g) d.cal gd (by decide) rfl (rk_cons (re_var 3) (rk_cons (re_var 1) (rk_cons (re_var 0) rk_nil)))) ra_nil)))) (rss_cons (rs_append 4 (re_fkp (k_rows_of_layer_row_carets_text g) d.cal gd (by decide) rfl (rk_cons (re_var 3) (rk_cons (re_var 1) (rk_cons (re_var 0) rk_nil))))) (rss_one (rs_frz 4 (rs_if (rt_cmp (c_ne d.u64) (re_callB (b_repr gd d.units) rfl (g.free 46) (by decide +kernel) (ra_cons (re_var 4) ra_nil)) (re_callB (b_repr gd d.units) rfl (g.free 46) (by decide +kernel) (ra_cons (re_f (t__law_due g) d.cal gd (by decide) rfl (ra_cons (re_var 0) (ra_cons (re_var 1) (ra_cons (re_var 2) (ra_cons (re_var 3) ra_nil))))) ra_nil))) (rss_one (rs_ret re_bl)) rss_nil)))))) (rss_one (rs_ret re_bl)))))) (fun kV doc pm an cdv ct us h => by
    match us, h with
    | [u0, u1], _ => rfl)
def b_law : SM := (sSeq (sSet 1 (eF 1 M__law_feed (aCons (eVar 0) aNil))) (sSeq (sFor (iR1 (aCons (eC (.int 3)) aNil)) (gN 2) (sSeq (sAsg (gTn 2 (gAll1 (gN 6) (gAll1 (gN 7) gAll0))) (eF 1 M__law_page (aCons (eVar 1) aNil))) (sSeq (sSet 8 (eCL (L1 reprM) (aCons (eVar 6) aNil))) (sSeq (sIf (tOrM (tNotM (tTru (eF 2 M__law_is_right (aCons (eVar 6) (aCons (eTup (aCons (eVar 7) aNil)) aNil))))) (tNotM (tTru (eF 2 M__law_is_right (aCons (eVar 6) (aCons (eF 3 M__law_marks (aCons (eVar 1) (aCons (eVar 6) (aCons (eVar 7) aNil)))) aNil)))))) (sRet (eC (.bl false))) sNil) (sIf (tV (eBin neM (eCL (L1 reprM) (aCons (eVar 6) aNil)) (eVar 8))) (sRet (eC (.bl false))) sNil))))) (sSeq (sSet 3 (eTup (aCons (eTup (aCons (eC (.str "open")) (aCons (eC (.str "if")) aNil))) (aCons (eTup (aCons (eC (.str "open")) (aCons (eC (.str "if")) aNil))) (aCons (eTup (aCons (eC (.str "end")) aNil)) (aCons (eTup (aCons (eC (.str "stop")) aNil)) (aCons (eTup (aCons (eC (.str "open")) (aCons (eC (.str "if")) aNil))) (aCons (eTup (aCons (eC (.str "end")) aNil)) aNil)))))))) (sSeq (sSet 3 (eBin addM (eVar 3) (eTup (aCons (eTup (aCons (eC (.str "end")) aNil)) (aCons (eTup (aCons (eC (.str "end")) aNil)) (aCons (eTup (aCons (eC (.str "end")) aNil)) (aCons (eTup (aCons (eC (.str "stop")) aNil)) aNil))))))) (sSeq (sFor (iAny (eN (nLst (aCons (eTup (aCons (eC (.int 1)) aNil)) (aCons (eTup (aCons (eC (.int 2)) aNil)) (aCons (eTup (aCons (eC (.int 0)) (aCons (eC (.int 5)) aNil))) (aCons (eTup (aCons (eC (.int 2)) (aCons (eC (.int 4)) (aCons (eC (.int 7)) aNil)))) (aCons (eTup (aCons (eC (.int 10)) aNil)) (aCons (eTup aNil) aNil))))))))) (gN 4) (sIf (tNotM (tTru (eF 2 M__law_is_right (aCons (eVar 3) (aCons (eVar 4) aNil))))) (sRet (eC (.bl false))) sNil)) (sSeq (sSetL 5 (nComp [9] (iR2 (aCons (eC (.int 2)) (aCons (eC (.int 10)) aNil))) (gN 9) tYesM (eF 3 M_layer_of (aCons (eVar 3) (aCons (eTup (aCons (eC (.int 2)) aNil)) (aCons (eVar 9) aNil)))))) (sRet (eAnd (eBin eqM (eVar 5) (eN (nLst (aCons (eC (.int 0)) (aCons (eC (.int 1)) (aCons (eC (.int 1)) (aCons (eC (.int 1)) (aCons (eC (.int 1)) (aCons (eC (.int 2)) (aCons (eC (.int 3)) (aCons (eC (.int 4)) aNil))))))))))) (eBin eqM (eF 3 M_rows_of_layer (aCons (eVar 3) (aCons (eTup (aCons (eC (.int 2)) aNil)) (aCons (eC (.int 4)) aNil)))) (eTup (aCons (eC (.int 3)) (aCons (eC (.int 4)) (aCons (eC (.int 5)) (aCons (eC (.int 6)) aNil))))))))))))))
def M_law : List D → M D := runB 10 b_law
theorem t_law (g : Gd Hd.fa Hd.fn Hd.ex K mg base) : Fnc P w K mg base 9 "law" 1 M_law := by
  have hN : (["_law_script", "_law_feed_here", "_law_lap", "_law_rows", "_law_marks_here", "_law_told", "_law_page_here", "_law_cut", "_law_kept", "_law_k"] : List Str).Nodup := by decide +kernel
  obtain ⟨fd, F⟩ := g.says.def_ 33 (d := Hd.d_law) rfl
  exact fnc_of (ps := ["_law_script"]) F (g.glo 33) rfl (fnC (N := ["_law_script", "_law_feed_here", "_law_lap", "_law_rows", "_law_marks_here", "_law_told", "_law_page_here", "_law_cut", "_law_kept", "_law_k"]) F (scope_ok (by decide +kernel)) fun cdv A outer s g0 H E d gd => (rss_cons (rs_set 1 hN (re_f (t__law_feed g) d.cal gd (by decide) rfl (ra_cons (re_var 0) ra_nil))) (rss_cons (rs_for d.po rfl (ri_range1 rfl (g.free 42) (ra_cons re_int ra_nil)) (rg_name 2 hN) (rss_cons (rs_asg (re_f (t__law_page g) d.cal gd (by decide) rfl (ra_cons (re_var 1) ra_nil)) (rg_tup 2 rfl (rgs_cons (rg_name 6 hN) (rgs_cons (rg_name 7 hN) rgs_nil)))) (rss_cons (rs_set 8 hN (re_callB (b_repr gd d.units) rfl (g.free 46) (by decide +kernel) (ra_cons (re_var 6) ra_nil))) (rss_cons (rs_if (RW.rt (rw_or (rt_not (rt_tru (re_f (t__law_is_right g) d.cal gd (by decide) rfl (ra_cons (re_var 6) (ra_cons (re_tup (ra_cons (re_var 7) ra_nil)) ra_nil))))) (rw_or1 (rt_not (rt_tru (re_f (t__law_is_right g) d.cal gd (by decide) rfl (ra_cons (re_var 6) (ra_cons (re_f (t__law_marks g) d.cal gd (by decide) rfl (ra_cons (re_var 1) (ra_cons (re_var 6) (ra_cons (re_var 7) ra_nil)))) ra_nil)))))))) (rss_one (rs_ret re_bl)) rss_nil) (rss_one (rs_if (rt_cmp (c_ne d.u64) (re_callB (b_repr gd d.units) rfl (g.free 46) (by decide +kernel) (ra_cons (re_var 6) ra_nil)) (re_var 8)) (rss_one (rs_ret re_bl)) rss_nil)))))) (rss_cons (rs_set 3 hN (re_tup (ra_cons (re_tup (ra_cons re_str (ra_cons re_str ra_nil))) (ra_cons (re_tup (ra_cons re_str (ra_cons re_str ra_nil))) (ra_cons (re_tup (ra_cons re_str ra_nil)) (ra_cons (re_tup (ra_cons re_str ra_nil)) (ra_cons (re_tup (ra_cons re_str (ra_cons re_str ra_nil))) (ra_cons (re_tup (ra_cons re_str ra_nil)) ra_nil)))))))) (rss_cons (rs_set 3 hN (re_bin o_add (re_var 3) (re_tup (ra_cons (re_tup (ra_cons re_str ra_nil)) (ra_cons (re_tup (ra_cons re_str ra_nil)) (ra_cons (re_tup (ra_cons re_str ra_nil)) (ra_cons (re_tup (ra_cons re_str ra_nil)) ra_nil))))))) (rss_cons (rs_for d.po rfl (ri_any (re_n (rn_lst (ra_cons (re_tup (ra_cons re_int ra_nil)) (ra_cons (re_tup (ra_cons re_int ra_nil)) (ra_cons (re_tup (ra_cons re_int (ra_cons re_int ra_nil))) (ra_cons (re_tup (ra_cons re_int (ra_cons re_int (ra_cons re_int ra_nil)))) (ra_cons (re_tup (ra_cons re_int ra_nil)) (ra_cons (re_tup ra_nil) ra_nil))))))))) (rg_name 4 hN) (rss_one (rs_if (rt_not (rt_tru (re_f (t__law_is_right g) d.cal gd (by decide) rfl (ra_cons (re_var 3) (ra_cons (re_var 4) ra_nil))))) (rss_one (rs_ret re_bl)) rss_nil))) (rss_cons (rs_setC 5 [("_law_k", 9)] rfl hN (ri_range2 rfl (g.free 42) (ra_cons re_int (ra_cons re_int ra_nil))) (blkOk_by (by kernel_rfl)) (by decide) (fun _ _ _ _ _ => (rg_name 9 hN)) (fun _ _ _ _ _ => rts_nil) (fun _ _ _ _ _ => (re_f (t_layer_of g) (cal_b d.cal _ _ _ _ _) gd (by decide) rfl (ra_cons (re_var 3) (ra_cons (re_tup (ra_cons re_int ra_nil)) (ra_cons (re_var 9) ra_nil)))))) (rss_one (rs_ret (re_and (re_cmp (c_eq d.u64) (re_var 5) (re_n (rn_lst (ra_cons re_int (ra_cons re_int (ra_cons re_int (ra_cons re_int (ra_cons re_int (ra_cons re_int (ra_cons re_int (ra_cons re_int ra_nil))))))))))) (re_one (re_cmp (c_eq d.u64) (re_f (t_rows_of_layer g) d.cal gd (by decide) rfl (ra_cons (re_var 3) (ra_cons (re_tup (ra_cons re_int ra_nil)) (ra_cons re_int ra_nil)))) (re_tup (ra_cons re_int (ra_cons re_int (ra_cons re_int (ra_cons re_int ra_nil))))))))))))))))) (fun kV doc pm an cdv ct us h => by
    match us, h with
    | [u0], _ => rfl)
end G
namespace Hd
open PySem PySem.Spec PyProof.Rows L2
abbrev R : PySem.W.OpenRow := PySem.W.OpenLaw.row PySem.Challenge.rw_surelywrong_k34_segments_and_layers
abbrev hk : PySem.W.Hook := He.hookX 4 fa fn [] [] ex
def ob (s : PySem.W.SharedT) : He.AlX := He.obsX 4 fa fn [] [] ex (HandSHeadRun.getT s)
theorem ob_eq (s : PySem.W.SharedT) : ob s = hk.obs s.abs := He.obsX_eq (HandSHeadRun.getT_eq s)
theorem run (w : World) : HandSHeadRun.RunEq R (PySem.W.view R.prog [43]) hk ob 4000 loose w := by
  intro os
  kernel_rfl
end Hd
namespace G
open PySem PySem.Spec PyProof.Rows L2 F PySem.W PySem.Calls
theorem holds_of (hw : ∀ ns : List Int, ns.length ≤ 63 → wp (M_law [.scr ns]) [] (fun d _ => d = .bl true) (fun _ _ => False)) : PySem.Challenge.rw_surelywrong_k34_segments_and_layers.Holds := by
  w_on; o_law
  refine HandSHeadRun.head_any (r := OpenLaw.row PySem.Challenge.rw_surelywrong_k34_segments_and_layers) (q := view (OpenLaw.row PySem.Challenge.rw_surelywrong_k34_segments_and_layers).prog [43]) (H := Hd.hk) (ob := Hd.ob) (M := 4000) (loose := Hd.loose) (d := HandSHeadRun.topDef (OpenLaw.row PySem.Challenge.rw_surelywrong_k34_segments_and_layers).prog 43) (kwd := []) Hd.ob_eq
    (by kernel_rfl) (fun s => by kernel_rfl) Hd.run (by kernel_rfl) (by kernel_rfl) (by kernel_rfl) (by rfl) (by first | assumption | decide +kernel) (by decide +kernel) ⟨rfl, rfl, rfl, rfl, rfl, by decide +kernel⟩ ?hw ?hc
  case hw => w_witness2
  case hc => exact law_walk (n := 63) (k := 9) (fa := Hd.fa) (fn := Hd.fn) (ex := Hd.ex) (bm := M_law) (by rfl) (by decide) (by rfl) ⟨rfl, by decide, by decide⟩ (fun w h ⟨K, hK, c⟩ => ⟨K, hK, c.t.d, c.more⟩) (fun g => t_law g) hw
end G
namespace G
open PySem PySem.Spec PyProof.Rows L2 F
/-! ## what the kinds are -/
def numB : D → Bool
  | .int i => decide (0 ≤ i)
  | _ => false
def intB : D → Bool
  | .int _ => true
  | _ => false
def ltr : List Nat := ("abcdefghijklmnopqrstuvwxyz" : Str).cps.toList
def nameB : D → Bool
  | .str s => decide (1 ≤ s.length) && decide (s.length ≤ 8) && s.cps.toList.all fun c => decide (c ∈ ltr)
  | _ => false
def strB (z : Str) : D → Bool
  | .str s => s == z
  | _ => false
def kindB (d : D) : Bool := strB "" d || nameB d
def sortB : D → Bool
  | .str s => s == "if" || s == "loop"
  | .tup [a, b] => strB "fun" a && kindB b
  | _ => false
def rowB : D → Bool
  | .tup [a] => strB "end" a || strB "stop" a
  | .tup [a, b] => (strB "open" a && sortB b) || (strB "give" a && kindB b)
  | .tup [a, b, c] => (strB "let" a || strB "use" a) && nameB b && nameB c
  | _ => false
def tupB : D → Bool
  | .tup _ => true
  | _ => false
def itms : D → List D
  | .tup xs => xs
  | _ => []
def pageB (d : D) : Bool := tupB d && (itms d).all rowB
mutual
/-- sizes within what is read -/
def D.ok : D → Bool
  | .str x => PyData.strOk x && decide (x.length ≤ 1000)
  | .int i => decide (i.natAbs < 10 ^ 61)
  | .tup xs => decide (xs.length ≤ 1000) && (!xs.all numB || decide (xs.length < 64)) && D.okL xs
  | .lst xs => decide (xs.length ≤ 1000) && D.okL xs
  | .dic _ => false
  | .obj _ => false
  | .scr _ => false
  | _ => true
def D.okL : List D → Bool
  | [] => true
  | x :: xs => D.ok x && D.okL xs
end
mutual
theorem ok_pl : ∀ d : D, D.ok d = true → d.pl = true
  | .non, _ => rfl
  | .bl _, _ => rfl
  | .int _, _ => rfl
  | .str x, h => by simp [D.ok] at h; simp [D.pl, h]
  | .tup xs, h => by simp only [D.ok, Bool.and_eq_true] at h; simp only [D.pl]; exact okL_pl xs h.2
  | .lst xs, h => by simp only [D.ok, Bool.and_eq_true] at h; simp only [D.pl]; exact okL_pl xs h.2
  | .dic _, h => by simp [D.ok] at h
  | .obj _, h => by simp [D.ok] at h
  | .scr _, h => by simp [D.ok] at h
theorem okL_pl : ∀ ds : List D, D.okL ds = true → D.plL ds = true
  | [], _ => rfl
  | d :: ds, h => by
    simp only [D.okL, Bool.and_eq_true] at h
    simp only [D.plL, Bool.and_eq_true]
    exact ⟨ok_pl d h.1, okL_pl ds h.2⟩
end
theorem okL_mem {ds : List D} (h : D.okL ds = true) : ∀ d ∈ ds, D.ok d = true := by
  induction ds with
  | nil => intro d hd; cases hd
  | cons x xs ih =>
    simp only [D.okL, Bool.and_eq_true] at h
    intro d hd
    rcases List.mem_cons.mp hd with e | e
    · subst e; exact h.1
    · exact ih h.2 d e
theorem depL_mem {ds : List D} {n : Nat} (h : D.depL ds ≤ n) : ∀ d ∈ ds, d.dep ≤ n := by
  induction ds with
  | nil => intro d hd; cases hd
  | cons x xs ih =>
    simp only [D.depL] at h
    intro d hd
    rcases List.mem_cons.mp hd with e | e
    · subst e; omega
    · exact ih (by omega) d e
/-- fit to be asked -/
structure Fit (d : D) : Prop where
  ok : D.ok d = true
  dp : d.dep ≤ 60
theorem Fit.sh {d : D} (f : Fit d) : d.sh = true := by
  simp only [D.sh, Bool.and_eq_true, decide_eq_true_eq]
  exact ⟨ok_pl d f.ok, by have := f.dp; omega⟩
theorem Fit.mem {xs : List D} (f : Fit (.tup xs)) : ∀ d ∈ xs, Fit d := fun d hd => by
  have h := f.ok
  simp only [D.ok, Bool.and_eq_true] at h
  have hd2 := f.dp
  simp only [D.dep] at hd2
  exact ⟨okL_mem h.2 d hd, by have := depL_mem (n := 59) (by omega) d hd; omega⟩
theorem Fit.len {xs : List D} (f : Fit (.tup xs)) : xs.length ≤ 1000 := by
  have h := f.ok
  simp only [D.ok, Bool.and_eq_true, decide_eq_true_eq] at h
  exact h.1.1
theorem Fit.ob {d : D} (f : Fit d) : d.ob = false := by
  have h := f.ok
  cases d <;> first | rfl | (simp [D.ok] at h)
/-! ## the operations on what is fit -/
theorem eq_i (a b : Int) : eqM (.int a) (.int b) = .ret (.bl (a == b)) := rfl
theorem ne_i (a b : Int) : neM (.int a) (.int b) = .ret (.bl (!(a == b))) := rfl
theorem sh_str (z : Str) (h : PyData.strOk z = true) : (D.str z).sh = true := by simp [D.sh, D.pl, D.dep, h]
theorem eqv_str (d : D) (z : Str) : D.eqv d (.str z) = strB z d := by cases d <;> rfl
theorem eq_s {d : D} (z : Str) (h : d.sh = true) (hz : PyData.strOk z = true) : eqM d (.str z) = .ret (.bl (strB z d)) := by
  unfold eqM
  rw [if_pos (by rw [h, sh_str z hz]; simp), eqv_str]
theorem eqv_str' (d : D) (z : Str) : D.eqv (.str z) d = strB z d := by
  cases d with
  | str s =>
    show (z == s) = (s == z)
    rw [Bool.eq_iff_iff, beq_iff_eq, beq_iff_eq]
    exact eq_comm
  | _ => rfl
theorem in_s {d : D} {ys : List Str} (h : d.sh = true) (hy : ys.all PyData.strOk = true) : inM false d (.tup (ys.map D.str)) = .ret (.bl (ys.any fun z => strB z d)) := by
  have key : ∀ ys : List Str, ys.all PyData.strOk = true → D.plL (ys.map D.str) = true ∧ D.depL (ys.map D.str) = 0 ∧ inL d (ys.map D.str) = ys.any fun z => strB z d := by
    intro ys
    induction ys with
    | nil => intro _; exact ⟨rfl, rfl, rfl⟩
    | cons y ys ih =>
      intro hy
      rw [List.all_cons, Bool.and_eq_true] at hy
      obtain ⟨h1, h2, h3⟩ := ih hy.2
      refine ⟨by simp [D.plL, D.pl, hy.1, h1], by simp [D.depL, D.dep, h2], ?_⟩
      unfold inL at h3 ⊢
      rw [List.map_cons, List.any_cons, List.any_cons, h3, eqv_str']
  obtain ⟨h1, h2, h3⟩ := key ys hy
  have hs : D.sh (.tup (ys.map D.str)) = true := by simp [D.sh, D.pl, D.dep, h1, h2]
  have hc : ((d.flat && (ys.map D.str).all D.flat) || (d.sh && D.sh (.tup (ys.map D.str)))) = true := by rw [h, hs]; simp
  cases d with
  | str s => show (if _ then _ else _) = _; rw [if_pos hc, h3, Bool.false_xor]
  | non => show (if _ then _ else _) = _; rw [if_pos hc, h3, Bool.false_xor]
  | bl _ => show (if _ then _ else _) = _; rw [if_pos hc, h3, Bool.false_xor]
  | int _ => show (if _ then _ else _) = _; rw [if_pos hc, h3, Bool.false_xor]
  | tup _ => show (if _ then _ else _) = _; rw [if_pos hc, h3, Bool.false_xor]
  | lst _ => show (if _ then _ else _) = _; rw [if_pos hc, h3, Bool.false_xor]
  | dic _ => simp [D.sh, D.pl] at h
  | obj _ => simp [D.sh, D.pl] at h
  | scr _ => simp [D.sh, D.pl] at h
theorem isi_s {d : D} (h : d.ob = false) : isiM "str" d = .ret (.bl (match d with | .str _ => true | _ => false)) := by
  cases d <;> first | rfl | cases h
theorem isi_t {d : D} (h : d.ob = false) : isiM "tuple" d = .ret (.bl (tupB d)) := by
  cases d <;> first | rfl | cases h
theorem is_integer_eq {d : D} (h : d.ob = false) : M_is_integer [d] = .ret (.bl (intB d)) := by
  cases d <;> first | rfl | cases h
theorem is_number_eq {d : D} (h : d.ob = false) : M_is_number [d] = .ret (.bl (numB d)) := by
  cases d <;> first | rfl | cases h
/-! ## comprehensions without effects -/
theorem comp_pure {gm : GM} {tm : Ev → M Bool} {em : Ev → M D} {ρ : Ev} (p : D → Bool) (f : D → D) : ∀ ds : List D, (∀ d ∈ ds, ∃ ρ', gm d ρ = some ρ' ∧ tm ρ' = .ret (p d) ∧ (p d = true → em ρ' = .ret (f d))) →
    compM (compI gm tm em ρ) ds = .ret ((ds.filter p).map f)
  | [], _ => rfl
  | d :: ds, h => by
    obtain ⟨ρ', h1, h2, h3⟩ := h d List.mem_cons_self
    have ih := comp_pure p f ds fun x hx => h x (List.mem_cons_of_mem _ hx)
    have hc : compI gm tm em ρ d = .ret (if p d = true then some (f d) else none) := by
      unfold compI
      rw [h1]
      simp only [h2, M.ret_bind]
      cases hp : p d with
      | true => simp only [h3 hp, M.ret_bind]; rfl
      | false => rfl
    show (compI gm tm em ρ d >>= fun o => compM (compI gm tm em ρ) ds >>= fun r => M.ret (o.toList ++ r)) = _
    rw [hc, ih]
    simp only [M.ret_bind]
    cases hp : p d with
    | true => simp [List.filter_cons, hp]
    | false => simp [List.filter_cons, hp]
theorem nComp_pure {vs : List Nat} {it : Ev → M (List D)} {gm : GM} {tm : Ev → M Bool} {em : Ev → M D} {ρ : Ev} {ds : List D} (p : D → Bool) (f : D → D) (hi : it ρ = .ret ds) (hl : ds.length ≤ sizeLine)
    (h : ∀ d ∈ ds, ∃ ρ', gm d (wipeE ρ vs) = some ρ' ∧ tm ρ' = .ret (p d) ∧ (p d = true → em ρ' = .ret (f d))) : nComp vs it gm tm em ρ = .ret ((ds.filter p).map f) := by
  unfold nComp
  rw [hi]
  show (if ds.length ≤ sizeLine then _ else _) = _
  rw [if_pos hl, comp_pure p f ds h]
  rfl
theorem nComp_map {vs : List Nat} {it : Ev → M (List D)} {gm : GM} {em : Ev → M D} {ρ : Ev} {ds : List D} (f : D → D) (hi : it ρ = .ret ds) (hl : ds.length ≤ sizeLine)
    (h : ∀ d ∈ ds, ∃ ρ', gm d (wipeE ρ vs) = some ρ' ∧ em ρ' = .ret (f d)) : nComp vs it gm tYesM em ρ = .ret (ds.map f) := by
  have q := nComp_pure (vs := vs) (it := it) (gm := gm) (tm := tYesM) (em := em) (ρ := ρ) (fun _ => true) f hi hl fun d hd => by
    obtain ⟨ρ', h1, h2⟩ := h d hd
    exact ⟨ρ', h1, rfl, fun _ => h2⟩
  rw [q, List.filter_eq_self.mpr fun _ _ => rfl]
theorem blsOf_map' (f : D → Bool) (ds : List D) : blsOf (ds.map fun d => .bl (f d)) = some (ds.map f) := by
  have : (ds.map fun d => D.bl (f d)) = (ds.map f).map D.bl := by rw [List.map_map]; rfl
  rw [this, blsOf_bl]
theorem all_l (f : D → Bool) (ds : List D) : allM (.lst (ds.map fun d => .bl (f d))) = .ret (.bl (ds.all f)) := by
  unfold allM
  simp only [blsOf_map']
  congr 2
  rw [List.all_map]; rfl
theorem sz1000 {n : Nat} (h : n ≤ 1000) : n ≤ sizeLine := by rw [sizeLine_eq]; omega
/-! ## names -/
def lt1 (c : Nat) : Bool := decide (c ∈ ltr)
theorem in_ltr (neg : Bool) (c : Nat) : inM neg (.str ⟨#[c]⟩) (.str "abcdefghijklmnopqrstuvwxyz") = .ret (.bl (neg ^^ lt1 c)) := rfl
theorem strD_len (s : Str) : (strD s).length = s.length := by unfold strD; rw [List.length_map, Array.length_toList]; rfl
def sgB : D → Bool
  | .str s => lt1 (s.cps.getD 0 0)
  | _ => false
theorem strD_all (s : Str) : (strD s).all sgB = s.cps.toList.all lt1 := by
  unfold strD
  rw [List.all_map]
  rfl
theorem strD_mem {s : Str} {d : D} (h : d ∈ strD s) : ∃ c, d = .str ⟨#[c]⟩ := by
  unfold strD at h
  obtain ⟨c, _, e⟩ := List.mem_map.mp h
  exact ⟨c, e.symm⟩
theorem isi_ss (s : Str) : isiM "str" (.str s) = .ret (.bl true) := rfl
theorem isi_ti (xs : List D) : isiM "tuple" (.tup xs) = .ret (.bl true) := rfl
theorem name_len (s : Str) (hl : s.length ≤ sizeLine) : eChain leM leM (eC (.int 1)) (eCL (L1 lenM) (aCons (eVar 0) aNil)) (eC (.int 8)) [.v (.str s), .no] = .ret (.bl (decide (1 ≤ s.length) && decide (s.length ≤ 8))) := by
  have hlen : lenM (.str s) = .ret (.int s.length) := if_pos hl
  simp only [runB, startE, sSeq, sIf, sRet, sSet, sPar, sNil, sDrop, eBin, eUn, eC, eVar, eAnd, eOr, eNot, notD, eF, eCL, L1, L1N, nCL, aCons, aNil, eTup, nLst, eN, tV, tTru, asB, tru, tOrM, tAndM, tNotM, eIf, eSl, pSome, pNo, nUn, M.ret_bind, List.map_cons, List.map_nil, List.length_cons, List.length_nil, List.replicate, List.cons_append, List.nil_append, List.getElem?_cons_zero, List.getElem?_cons_succ, List.set_cons_zero, List.set_cons_succ, hlen, eChain, le_i]
  by_cases h1 : 1 ≤ s.length
  · rw [decide_eq_true h1, decide_eq_true (show (1 : Int) ≤ s.length by omega)]
    by_cases h2 : s.length ≤ 8
    · rw [decide_eq_true h2, decide_eq_true (show (s.length : Int) ≤ 8 by omega)]; rfl
    · rw [decide_eq_false h2, decide_eq_false (show ¬ (s.length : Int) ≤ 8 by omega)]; rfl
  · rw [decide_eq_false h1, decide_eq_false (show ¬ (1 : Int) ≤ s.length by omega)]; rfl
theorem nameB_str (s : Str) : nameB (.str s) = ((decide (1 ≤ s.length) && decide (s.length ≤ 8)) && s.cps.toList.all lt1) := rfl
theorem is_name_str (s : Str) (h : s.length ≤ 1000) : M_is_name [.str s] = .ret (.bl (nameB (.str s))) := by
  have hl := sz1000 h
  have hn : nComp [1] (iAny (eVar 0)) (gN 1) tYesM (eBin (inM false) (eVar 1) (eC (.str "abcdefghijklmnopqrstuvwxyz"))) [.v (.str s), .no] = .ret ((strD s).map fun d => .bl (sgB d)) := by
    refine nComp_map _ rfl (by rw [strD_len]; exact hl) fun d hd => ⟨_, rfl, ?_⟩
    obtain ⟨c, rfl⟩ := strD_mem hd
    show inM false (.str ⟨#[c]⟩) (.str "abcdefghijklmnopqrstuvwxyz") = _
    rw [in_ltr, Bool.false_xor]; rfl
  rw [nameB_str]
  unfold M_is_name b_is_name
  simp only [runB, startE, sSeq, sIf, sRet, sSet, sPar, sNil, sDrop, eBin, eUn, eC, eVar, eAnd, eOr, eNot, notD, eF, eCL, L1, L1N, nCL, aCons, aNil, eTup, nLst, eN, tV, tTru, asB, tru, tOrM, tAndM, tNotM, eIf, eSl, pSome, pNo, nUn, M.ret_bind, List.map_cons, List.map_nil, List.length_cons, List.length_nil, List.replicate, List.cons_append, List.nil_append, List.getElem?_cons_zero, List.getElem?_cons_succ, List.set_cons_zero, List.set_cons_succ, isi_ss, name_len s hl]
  cases (decide (1 ≤ s.length) && decide (s.length ≤ 8)) with
  | true => simp only [runB, startE, sSeq, sIf, sRet, sSet, sPar, sNil, sDrop, eBin, eUn, eC, eVar, eAnd, eOr, eNot, notD, eF, eCL, L1, L1N, nCL, aCons, aNil, eTup, nLst, eN, tV, tTru, asB, tru, tOrM, tAndM, tNotM, eIf, eSl, pSome, pNo, nUn, M.ret_bind, List.map_cons, List.map_nil, List.length_cons, List.length_nil, List.replicate, List.cons_append, List.nil_append, List.getElem?_cons_zero, List.getElem?_cons_succ, List.set_cons_zero, List.set_cons_succ, Bool.not_true, Bool.not_false, hn, all_l, strD_all, Bool.true_and]
  | false => simp only [runB, startE, sSeq, sIf, sRet, sSet, sPar, sNil, sDrop, eBin, eUn, eC, eVar, eAnd, eOr, eNot, notD, eF, eCL, L1, L1N, nCL, aCons, aNil, eTup, nLst, eN, tV, tTru, asB, tru, tOrM, tAndM, tNotM, eIf, eSl, pSome, pNo, nUn, M.ret_bind, List.map_cons, List.map_nil, List.length_cons, List.length_nil, List.replicate, List.cons_append, List.nil_append, List.getElem?_cons_zero, List.getElem?_cons_succ, List.set_cons_zero, List.set_cons_succ, Bool.not_true, Bool.not_false, Bool.false_and]
theorem is_name_eq {d : D} (f : Fit d) : M_is_name [d] = .ret (.bl (nameB d)) := by
  have hk := f.ok
  cases d with
  | str s => exact is_name_str s (by simp [D.ok] at hk; exact hk.2)
  | dic _ => simp [D.ok] at hk
  | obj _ => simp [D.ok] at hk
  | scr _ => simp [D.ok] at hk
  | _ => rfl
theorem lst_nil_eq (ds : List D) (h : (D.lst ds).sh = true) : eqM (.lst ds) (.lst []) = .ret (.bl ds.isEmpty) := by
  unfold eqM
  rw [if_pos (by rw [h]; rfl)]
  cases ds <;> rfl
theorem lst_nil_ne (ds : List D) (h : (D.lst ds).sh = true) : neM (.lst ds) (.lst []) = .ret (.bl (!ds.isEmpty)) := by
  unfold neM
  rw [if_pos (by rw [h]; rfl)]
  cases ds <;> rfl
theorem filter_empty {p : D → Bool} (ds : List D) : (ds.filter fun d => !p d).isEmpty = ds.all p := by
  induction ds with
  | nil => rfl
  | cons d ds ih =>
    rw [List.filter_cons, List.all_cons]
    cases h : p d with
    | true => simpa using ih
    | false => simp
theorem plL_filter (p : D → Bool) (ds : List D) (h : D.plL ds = true) : D.plL (ds.filter p) = true ∧ ∀ n, D.depL ds ≤ n → D.depL (ds.filter p) ≤ n := by
  induction ds with
  | nil => exact ⟨rfl, fun n h => h⟩
  | cons d ds ih =>
    simp only [D.plL, Bool.and_eq_true] at h
    obtain ⟨h1, h2⟩ := ih h.2
    rw [List.filter_cons]
    cases p d with
    | true => exact ⟨by simp [D.plL, h.1, h1], fun n hn => by simp only [D.depL, if_true] at hn ⊢; have := h2 n (by omega); omega⟩
    | false => exact ⟨by simpa using h1, fun n hn => by simp only [D.depL] at hn; simpa using h2 n (by omega)⟩
theorem sh_lst {ds : List D} : (D.lst ds).sh = true ↔ D.plL ds = true ∧ D.depL ds ≤ 63 := by
  unfold D.sh
  rw [Bool.and_eq_true, decide_eq_true_eq]
  exact and_congr_right fun _ => by show D.depL ds + 1 ≤ 64 ↔ _; omega
theorem sh_tup {ds : List D} : (D.tup ds).sh = true ↔ D.plL ds = true ∧ D.depL ds ≤ 63 := by
  unfold D.sh
  rw [Bool.and_eq_true, decide_eq_true_eq]
  exact and_congr_right fun _ => by show D.depL ds + 1 ≤ 64 ↔ _; omega
theorem sh_filter {p : D → Bool} {ds : List D} (h : (D.lst ds).sh = true) : (D.lst (ds.filter p)).sh = true := by
  rw [sh_lst] at h ⊢
  obtain ⟨h1, h2⟩ := plL_filter p ds h.1
  exact ⟨h1, h2 63 h.2⟩
theorem sh_strD (s : Str) (h : PyData.strOk s = true) : (D.lst (strD s)).sh = true := by
  have key : ∀ l : List Nat, l.all (· < 0x110000) = true → D.plL (l.map fun c => D.str ⟨#[c]⟩) = true ∧ D.depL (l.map fun c => D.str ⟨#[c]⟩) = 0 := by
    intro l
    induction l with
    | nil => intro _; exact ⟨rfl, rfl⟩
    | cons c l ih =>
      intro h
      rw [List.all_cons, Bool.and_eq_true] at h
      obtain ⟨h1, h2⟩ := ih h.2
      refine ⟨?_, by simp [D.depL, D.dep, h2]⟩
      rw [List.map_cons]
      simp only [D.plL, D.pl, h1, Bool.and_true]
      unfold PyData.strOk
      simpa using h.1
  obtain ⟨h1, h2⟩ := key s.cps.toList (by unfold PyData.strOk at h; rw [← Array.all_toList] at h; exact h)
  exact sh_lst.mpr ⟨h1, by unfold strD; rw [h2]; omega⟩
end G
namespace G
open PySem PySem.Spec PyProof.Rows L2 F
theorem ne_s {d : D} (z : Str) (h : d.sh = true) (hz : PyData.strOk z = true) : neM d (.str z) = .ret (.bl (!strB z d)) := by
  unfold neM
  rw [if_pos (by rw [h, sh_str z hz]; simp), eqv_str]
theorem is_kind_eq {d : D} (f : Fit d) : M_is_kind [d] = .ret (.bl (kindB d)) := by
  have h := is_name_eq f
  have e : eqM d (.str "") = .ret (.bl (strB "" d)) := eq_s "" f.sh (by decide +kernel)
  have o := f.ob
  unfold M_is_kind b_is_kind
  simp only [runB, startE, sSeq, sIf, sRet, sSet, sPar, sNil, sDrop, eBin, eUn, eC, eVar, eAnd, eOr, eNot, notD, eF, eCL, L1, L1N, nCL, aCons, aNil, eTup, nLst, eN, tV, tTru, asB, tru, tOrM, tAndM, tNotM, eIf, eSl, pSome, pNo, nUn, M.ret_bind, List.map_cons, List.map_nil, List.length_cons, List.length_nil, List.replicate, List.cons_append, List.nil_append, List.getElem?_cons_zero, List.getElem?_cons_succ, List.set_cons_zero, List.set_cons_succ, h, if_true, e, isi_s o]
  cases d with
  | str s => cases hn : nameB (.str s) <;> simp [kindB, hn, runB, startE, sSeq, sIf, sRet, sSet, sPar, sNil, sDrop, eBin, eUn, eC, eVar, eAnd, eOr, eNot, notD, eF, eCL, L1, L1N, nCL, aCons, aNil, eTup, nLst, eN, tV, tTru, asB, tru, tOrM, tAndM, tNotM, eIf, eSl, pSome, pNo, nUn, M.ret_bind, List.map_cons, List.map_nil, List.length_cons, List.length_nil, List.replicate, List.cons_append, List.nil_append, List.getElem?_cons_zero, List.getElem?_cons_succ, List.set_cons_zero, List.set_cons_succ]
  | obj _ => cases o
  | scr _ => cases o
  | _ => rfl
def twoB : D → Bool
  | .tup [_, _] => true
  | _ => false
theorem is_pair_eq {d : D} (h : d.ob = false) : M_is_pair [d] = .ret (.bl (twoB d)) := by
  cases d with
  | obj _ => cases h
  | scr _ => cases h
  | tup xs =>
    unfold M_is_pair b_is_pair
    simp only [runB, startE, sSeq, sIf, sRet, sSet, sPar, sNil, sDrop, eBin, eUn, eC, eVar, eAnd, eOr, eNot, notD, eF, eCL, L1, L1N, nCL, aCons, aNil, eTup, nLst, eN, tV, tTru, asB, tru, tOrM, tAndM, tNotM, eIf, eSl, pSome, pNo, nUn, M.ret_bind, List.map_cons, List.map_nil, List.length_cons, List.length_nil, List.replicate, List.cons_append, List.nil_append, List.getElem?_cons_zero, List.getElem?_cons_succ, List.set_cons_zero, List.set_cons_succ, isi_ti, len_t, eq_i]
    match xs with
    | [] => rfl
    | [_] => rfl
    | [_, _] => rfl
    | a :: b :: c :: r =>
      have : (((a :: b :: c :: r : List D).length : Int) == 2) = false := by
        rw [beq_eq_false_iff_ne]; simp only [List.length_cons]; omega
      rw [this]; rfl
  | _ => rfl
theorem ix0 (a : D) (r : List D) : idxM (.tup (a :: r)) (.int 0) = .ret a := by
  have : atI (a :: r) 0 = some a := by
    unfold atI ixN
    rw [if_pos (by decide), if_pos (by simp only [List.length_cons]; omega)]; rfl
  show (match atI (a :: r) 0 with | some x => M.ret x | none => .bad) = _
  rw [this]
theorem ix1 (a b : D) (r : List D) : idxM (.tup (a :: b :: r)) (.int 1) = .ret b := by
  have : atI (a :: b :: r) 1 = some b := by
    unfold atI ixN
    rw [if_pos (by decide), if_pos (by simp only [List.length_cons]; omega)]; rfl
  show (match atI (a :: b :: r) 1 with | some x => M.ret x | none => .bad) = _
  rw [this]
theorem ix2 (a b c : D) (r : List D) : idxM (.tup (a :: b :: c :: r)) (.int 2) = .ret c := by
  have : atI (a :: b :: c :: r) 2 = some c := by
    unfold atI ixN
    rw [if_pos (by decide), if_pos (by simp only [List.length_cons]; omega)]; rfl
  show (match atI (a :: b :: c :: r) 2 with | some x => M.ret x | none => .bad) = _
  rw [this]
theorem sl1 (a : D) (r : List D) : sliceM (some 1) none (.tup (a :: r)) = .ret (.tup r) := by
  show M.ret (D.tup (cutL (a :: r) (some 1) none)) = _
  have : cutL (a :: r) (some 1) none = r := by
    unfold cutL
    rw [HT.sIx_none]
    have e : HT.sIx (a :: r).length 0 (some 1) = 1 := by
      rw [show (some (1 : Int)) = some ((1 : Nat) : Int) from rfl, HT.sIx_nat]; simp
    rw [e]
    simp
  rw [this]
theorem in2 {d : D} (y z : Str) (h : d.sh = true) (hy : PyData.strOk y = true) (hz : PyData.strOk z = true) : inM false d (.tup [.str y, .str z]) = .ret (.bl (strB y d || strB z d)) := by
  have := in_s (ys := [y, z]) h (by simp [hy, hz])
  simpa using this
theorem is_sort_eq {d : D} (f : Fit d) : M_is_sort [d] = .ret (.bl (sortB d)) := by
  have o := f.ob
  have e := in2 "if" "loop" f.sh (by decide +kernel) (by decide +kernel)
  have hp := is_pair_eq o
  unfold M_is_sort b_is_sort
  cases d with
  | obj _ => cases o
  | scr _ => cases o
  | str s =>
    simp only [runB, startE, sSeq, sIf, sRet, sSet, sPar, sNil, sDrop, eBin, eUn, eC, eVar, eAnd, eOr, eNot, notD, eF, eCL, L1, L1N, nCL, aCons, aNil, eTup, nLst, eN, tV, tTru, asB, tru, tOrM, tAndM, tNotM, eIf, eSl, pSome, pNo, nUn, M.ret_bind, List.map_cons, List.map_nil, List.length_cons, List.length_nil, List.replicate, List.cons_append, List.nil_append, List.getElem?_cons_zero, List.getElem?_cons_succ, List.set_cons_zero, List.set_cons_succ, isi_ss, e, Nat.le_refl, if_true, show (2 : Nat) ≤ sizeLine from by decide]
    rfl
  | tup xs =>
    match xs with
    | [] => rfl
    | [_] => rfl
    | [a, b] =>
      have fa := f.mem a (by simp)
      have fb := f.mem b (by simp)
      have hk := is_kind_eq fb
      have he := eq_s "fun" fa.sh (by decide +kernel)
      have hi : isiM "str" (.tup [a, b]) = .ret (.bl false) := rfl
      simp only [runB, startE, sSeq, sIf, sRet, sSet, sPar, sNil, sDrop, eBin, eUn, eC, eVar, eAnd, eOr, eNot, notD, eF, eCL, L1, L1N, nCL, aCons, aNil, eTup, nLst, eN, tV, tTru, asB, tru, tOrM, tAndM, tNotM, eIf, eSl, pSome, pNo, nUn, M.ret_bind, List.map_cons, List.map_nil, List.length_cons, List.length_nil, List.replicate, List.cons_append, List.nil_append, List.getElem?_cons_zero, List.getElem?_cons_succ, List.set_cons_zero, List.set_cons_succ, hi, hp, ix0, ix1, he, hk, if_true, twoB]
      cases h : strB "fun" a <;> simp [sortB, h, runB, startE, sSeq, sIf, sRet, sSet, sPar, sNil, sDrop, eBin, eUn, eC, eVar, eAnd, eOr, eNot, notD, eF, eCL, L1, L1N, nCL, aCons, aNil, eTup, nLst, eN, tV, tTru, asB, tru, tOrM, tAndM, tNotM, eIf, eSl, pSome, pNo, nUn, M.ret_bind, List.map_cons, List.map_nil, List.length_cons, List.length_nil, List.replicate, List.cons_append, List.nil_append, List.getElem?_cons_zero, List.getElem?_cons_succ, List.set_cons_zero, List.set_cons_succ]
    | a :: b :: c :: r =>
      have hi : isiM "str" (.tup (a :: b :: c :: r)) = .ret (.bl false) := rfl
      simp only [runB, startE, sSeq, sIf, sRet, sSet, sPar, sNil, sDrop, eBin, eUn, eC, eVar, eAnd, eOr, eNot, notD, eF, eCL, L1, L1N, nCL, aCons, aNil, eTup, nLst, eN, tV, tTru, asB, tru, tOrM, tAndM, tNotM, eIf, eSl, pSome, pNo, nUn, M.ret_bind, List.map_cons, List.map_nil, List.length_cons, List.length_nil, List.replicate, List.cons_append, List.nil_append, List.getElem?_cons_zero, List.getElem?_cons_succ, List.set_cons_zero, List.set_cons_succ, hi, hp, if_true, twoB]
      rfl
  | _ => rfl
end G
namespace G
open PySem PySem.Spec PyProof.Rows L2 F
def isS : D → Bool
  | .str _ => true
  | _ => false
theorem isi_s' {d : D} (h : d.ob = false) : isiM "str" d = .ret (.bl (isS d)) := by
  cases d <;> first | rfl | cases h
theorem row_other {a : D} (r : List D) (h : isS a = false) : rowB (.tup (a :: r)) = false := by
  cases a with
  | str s => cases h
  | _ =>
    match r with
    | [] => rfl
    | [_] => rfl
    | [_, _] => rfl
    | _ :: _ :: _ :: _ => rfl
/-- long tuples -/
theorem long {a b c : D} (r : List D) : ∃ m : Int, lenM (.tup (a :: b :: c :: r)) = .ret (.int m) ∧ 3 ≤ m := ⟨_, rfl, by simp only [List.length_cons]; omega⟩
theorem eq_no {a b : Int} (h : a ≠ b) : eqM (.int a) (.int b) = .ret (.bl false) := by rw [eq_i, beq_eq_false_iff_ne.mpr h]
theorem ne_yes {a b : Int} (h : a ≠ b) : neM (.int a) (.int b) = .ret (.bl true) := by rw [ne_i, beq_eq_false_iff_ne.mpr h]; rfl
theorem str_ne {s : Str} {y z : Str} (h : strB y (.str s) = true) (hn : (y == z) = false) : strB z (.str s) = false := by
  have : s = y := by simpa [strB] using h
  subst this
  exact hn
theorem in2t (d : D) (h : d.sh = true) : eTup (aCons (eC (.str "end")) (aCons (eC (.str "stop")) aNil)) = eTup (aCons (eC (.str "end")) (aCons (eC (.str "stop")) aNil)) := rfl
theorem sz2 : (2 : Nat) ≤ sizeLine := by decide
theorem is_row_eq {d : D} (f : Fit d) : M_is_row [d] = .ret (.bl (rowB d)) := by
  have o := f.ob
  cases d with
  | obj _ => cases o
  | scr _ => cases o
  | tup xs =>
    match xs, f with
    | [], f => rfl
    | a :: r, f =>
      have fa := f.mem a (by simp)
      have h1 := in2 "end" "stop" fa.sh (by decide +kernel) (by decide +kernel)
      have h2 := in2 "let" "use" fa.sh (by decide +kernel) (by decide +kernel)
      have h3 := eq_s "open" fa.sh (by decide +kernel)
      have h4 := eq_s "give" fa.sh (by decide +kernel)
      have is := isi_s' fa.ob
      have lt : ∃ m : Int, lenM (.tup (a :: r)) = .ret (.int m) ∧ 1 ≤ m := ⟨_, rfl, by simp only [List.length_cons]; omega⟩
      obtain ⟨m, lt, hm⟩ := lt
      have e0 : eqM (.int m) (.int 0) = .ret (.bl false) := eq_no (by omega)
      unfold M_is_row b_is_row
      cases hs : isS a with
      | false => simp [runB, startE, sSeq, sIf, sRet, sSet, sPar, sNil, sDrop, eBin, eUn, eC, eVar, eAnd, eOr, eNot, notD, eF, eCL, L1, L1N, nCL, aCons, aNil, eTup, nLst, eN, tV, tTru, asB, tru, tOrM, tAndM, tNotM, eIf, eSl, pSome, pNo, nUn, M.ret_bind, List.map_cons, List.map_nil, List.length_cons, List.length_nil, List.replicate, List.cons_append, List.nil_append, List.getElem?_cons_zero, List.getElem?_cons_succ, List.set_cons_zero, List.set_cons_succ, isi_ti, lt, e0, ix0, is, hs, row_other r hs]
      | true =>
        have sl := sl1 a r
        cases a with
        | str s =>
          match r, f with
          | [], f =>
            have l0 : lenM (.tup []) = .ret (.int 0) := rfl
            cases q1 : strB "end" (.str s) <;> cases q1' : strB "stop" (.str s) <;> cases q2 : strB "let" (.str s) <;> cases q2' : strB "use" (.str s) <;>
              simp [runB, startE, sSeq, sIf, sRet, sSet, sPar, sNil, sDrop, eBin, eUn, eC, eVar, eAnd, eOr, eNot, notD, eF, eCL, L1, L1N, nCL, aCons, aNil, eTup, nLst, eN, tV, tTru, asB, tru, tOrM, tAndM, tNotM, eIf, eSl, pSome, pNo, nUn, M.ret_bind, List.map_cons, List.map_nil, List.length_cons, List.length_nil, List.replicate, List.cons_append, List.nil_append, List.getElem?_cons_zero, List.getElem?_cons_succ, List.set_cons_zero, List.set_cons_succ, isi_ti, lt, e0, ix0, is, hs, sl, h1, h2, h3, h4, q1, q1', q2, q2', l0, eq_i, ne_i, rowB, sz2]
          | [b], f =>
            have fb := f.mem b (by simp)
            have k1 := is_sort_eq fb
            have k2 := is_kind_eq fb
            have l1 : lenM (.tup [b]) = .ret (.int 1) := rfl
            cases q1 : strB "end" (.str s) with
            | true =>
              have n1 := str_ne (z := "open") q1 (by decide +kernel)
              have n2 := str_ne (z := "give") q1 (by decide +kernel)
              simp [runB, startE, sSeq, sIf, sRet, sSet, sPar, sNil, sDrop, eBin, eUn, eC, eVar, eAnd, eOr, eNot, notD, eF, eCL, L1, L1N, nCL, aCons, aNil, eTup, nLst, eN, tV, tTru, asB, tru, tOrM, tAndM, tNotM, eIf, eSl, pSome, pNo, nUn, M.ret_bind, List.map_cons, List.map_nil, List.length_cons, List.length_nil, List.replicate, List.cons_append, List.nil_append, List.getElem?_cons_zero, List.getElem?_cons_succ, List.set_cons_zero, List.set_cons_succ, isi_ti, lt, e0, ix0, is, hs, sl, h1, h2, h3, h4, q1, n1, n2, l1, eq_i, ne_i, rowB, sz2]
            | false =>
            cases q1' : strB "stop" (.str s) with
            | true =>
              have n1 := str_ne (z := "open") q1' (by decide +kernel)
              have n2 := str_ne (z := "give") q1' (by decide +kernel)
              simp [runB, startE, sSeq, sIf, sRet, sSet, sPar, sNil, sDrop, eBin, eUn, eC, eVar, eAnd, eOr, eNot, notD, eF, eCL, L1, L1N, nCL, aCons, aNil, eTup, nLst, eN, tV, tTru, asB, tru, tOrM, tAndM, tNotM, eIf, eSl, pSome, pNo, nUn, M.ret_bind, List.map_cons, List.map_nil, List.length_cons, List.length_nil, List.replicate, List.cons_append, List.nil_append, List.getElem?_cons_zero, List.getElem?_cons_succ, List.set_cons_zero, List.set_cons_succ, isi_ti, lt, e0, ix0, is, hs, sl, h1, h2, h3, h4, q1, q1', n1, n2, l1, eq_i, ne_i, rowB, sz2]
            | false =>
            cases q2 : strB "let" (.str s) with
            | true =>
              have n1 := str_ne (z := "open") q2 (by decide +kernel)
              have n2 := str_ne (z := "give") q2 (by decide +kernel)
              simp [runB, startE, sSeq, sIf, sRet, sSet, sPar, sNil, sDrop, eBin, eUn, eC, eVar, eAnd, eOr, eNot, notD, eF, eCL, L1, L1N, nCL, aCons, aNil, eTup, nLst, eN, tV, tTru, asB, tru, tOrM, tAndM, tNotM, eIf, eSl, pSome, pNo, nUn, M.ret_bind, List.map_cons, List.map_nil, List.length_cons, List.length_nil, List.replicate, List.cons_append, List.nil_append, List.getElem?_cons_zero, List.getElem?_cons_succ, List.set_cons_zero, List.set_cons_succ, isi_ti, lt, e0, ix0, is, hs, sl, h1, h2, h3, h4, q1, q1', q2, n1, n2, l1, eq_i, ne_i, rowB, sz2]
            | false =>
            cases q2' : strB "use" (.str s) with
            | true =>
              have n1 := str_ne (z := "open") q2' (by decide +kernel)
              have n2 := str_ne (z := "give") q2' (by decide +kernel)
              simp [runB, startE, sSeq, sIf, sRet, sSet, sPar, sNil, sDrop, eBin, eUn, eC, eVar, eAnd, eOr, eNot, notD, eF, eCL, L1, L1N, nCL, aCons, aNil, eTup, nLst, eN, tV, tTru, asB, tru, tOrM, tAndM, tNotM, eIf, eSl, pSome, pNo, nUn, M.ret_bind, List.map_cons, List.map_nil, List.length_cons, List.length_nil, List.replicate, List.cons_append, List.nil_append, List.getElem?_cons_zero, List.getElem?_cons_succ, List.set_cons_zero, List.set_cons_succ, isi_ti, lt, e0, ix0, is, hs, sl, h1, h2, h3, h4, q1, q1', q2, q2', n1, n2, l1, eq_i, ne_i, rowB, sz2]
            | false =>
            cases q3 : strB "open" (.str s) with
            | true =>
              have n2 := str_ne (z := "give") q3 (by decide +kernel)
              simp [runB, startE, sSeq, sIf, sRet, sSet, sPar, sNil, sDrop, eBin, eUn, eC, eVar, eAnd, eOr, eNot, notD, eF, eCL, L1, L1N, nCL, aCons, aNil, eTup, nLst, eN, tV, tTru, asB, tru, tOrM, tAndM, tNotM, eIf, eSl, pSome, pNo, nUn, M.ret_bind, List.map_cons, List.map_nil, List.length_cons, List.length_nil, List.replicate, List.cons_append, List.nil_append, List.getElem?_cons_zero, List.getElem?_cons_succ, List.set_cons_zero, List.set_cons_succ, isi_ti, lt, e0, ix0, is, hs, sl, h1, h2, h3, h4, q1, q1', q2, q2', q3, n2, l1, eq_i, ne_i, rowB, sz2, k1, k2]
            | false =>
              cases q4 : strB "give" (.str s) <;> simp [runB, startE, sSeq, sIf, sRet, sSet, sPar, sNil, sDrop, eBin, eUn, eC, eVar, eAnd, eOr, eNot, notD, eF, eCL, L1, L1N, nCL, aCons, aNil, eTup, nLst, eN, tV, tTru, asB, tru, tOrM, tAndM, tNotM, eIf, eSl, pSome, pNo, nUn, M.ret_bind, List.map_cons, List.map_nil, List.length_cons, List.length_nil, List.replicate, List.cons_append, List.nil_append, List.getElem?_cons_zero, List.getElem?_cons_succ, List.set_cons_zero, List.set_cons_succ, isi_ti, lt, e0, ix0, is, hs, sl, h1, h2, h3, h4, q1, q1', q2, q2', q3, q4, l1, eq_i, ne_i, rowB, sz2, k1, k2]
          | [b, c], f =>
            have fb := f.mem b (by simp)
            have fc := f.mem c (by simp)
            have k1 := is_name_eq fb
            have k2 := is_name_eq fc
            have l2 : lenM (.tup [b, c]) = .ret (.int 2) := rfl
            cases q1 : strB "end" (.str s) with
            | true =>
              have n1 := str_ne (z := "let") q1 (by decide +kernel)
              have n2 := str_ne (z := "use") q1 (by decide +kernel)
              simp [runB, startE, sSeq, sIf, sRet, sSet, sPar, sNil, sDrop, eBin, eUn, eC, eVar, eAnd, eOr, eNot, notD, eF, eCL, L1, L1N, nCL, aCons, aNil, eTup, nLst, eN, tV, tTru, asB, tru, tOrM, tAndM, tNotM, eIf, eSl, pSome, pNo, nUn, M.ret_bind, List.map_cons, List.map_nil, List.length_cons, List.length_nil, List.replicate, List.cons_append, List.nil_append, List.getElem?_cons_zero, List.getElem?_cons_succ, List.set_cons_zero, List.set_cons_succ, isi_ti, lt, e0, ix0, is, hs, sl, h1, h2, h3, h4, q1, n1, n2, l2, eq_i, ne_i, rowB, sz2]
            | false =>
            cases q1' : strB "stop" (.str s) with
            | true =>
              have n1 := str_ne (z := "let") q1' (by decide +kernel)
              have n2 := str_ne (z := "use") q1' (by decide +kernel)
              simp [runB, startE, sSeq, sIf, sRet, sSet, sPar, sNil, sDrop, eBin, eUn, eC, eVar, eAnd, eOr, eNot, notD, eF, eCL, L1, L1N, nCL, aCons, aNil, eTup, nLst, eN, tV, tTru, asB, tru, tOrM, tAndM, tNotM, eIf, eSl, pSome, pNo, nUn, M.ret_bind, List.map_cons, List.map_nil, List.length_cons, List.length_nil, List.replicate, List.cons_append, List.nil_append, List.getElem?_cons_zero, List.getElem?_cons_succ, List.set_cons_zero, List.set_cons_succ, isi_ti, lt, e0, ix0, is, hs, sl, h1, h2, h3, h4, q1, q1', n1, n2, l2, eq_i, ne_i, rowB, sz2]
            | false =>
            cases q2 : strB "let" (.str s) <;> cases q2' : strB "use" (.str s) <;> cases q5 : nameB b <;>
              simp [runB, startE, sSeq, sIf, sRet, sSet, sPar, sNil, sDrop, eBin, eUn, eC, eVar, eAnd, eOr, eNot, notD, eF, eCL, L1, L1N, nCL, aCons, aNil, eTup, nLst, eN, tV, tTru, asB, tru, tOrM, tAndM, tNotM, eIf, eSl, pSome, pNo, nUn, M.ret_bind, List.map_cons, List.map_nil, List.length_cons, List.length_nil, List.replicate, List.cons_append, List.nil_append, List.getElem?_cons_zero, List.getElem?_cons_succ, List.set_cons_zero, List.set_cons_succ, isi_ti, lt, e0, ix0, ix1, is, hs, sl, h1, h2, h3, h4, q1, q1', q2, q2', l2, eq_i, ne_i, rowB, sz2, k1, k2, q5]
          | b :: c :: e :: r', f =>
            obtain ⟨n, ln, hn⟩ := long (a := b) (b := c) (c := e) r'
            have g0 : eqM (.int n) (.int 0) = .ret (.bl false) := eq_no (by omega)
            have g2 : eqM (.int n) (.int 2) = .ret (.bl false) := eq_no (by omega)
            have g1 : neM (.int n) (.int 1) = .ret (.bl true) := ne_yes (by omega)
            cases q1 : (strB "end" (.str s) || strB "stop" (.str s)) <;> cases q2 : (strB "let" (.str s) || strB "use" (.str s)) <;>
              simp [runB, startE, sSeq, sIf, sRet, sSet, sPar, sNil, sDrop, eBin, eUn, eC, eVar, eAnd, eOr, eNot, notD, eF, eCL, L1, L1N, nCL, aCons, aNil, eTup, nLst, eN, tV, tTru, asB, tru, tOrM, tAndM, tNotM, eIf, eSl, pSome, pNo, nUn, M.ret_bind, List.map_cons, List.map_nil, List.length_cons, List.length_nil, List.replicate, List.cons_append, List.nil_append, List.getElem?_cons_zero, List.getElem?_cons_succ, List.set_cons_zero, List.set_cons_succ, isi_ti, lt, e0, ix0, ix1, is, hs, sl, h1, h2, h3, h4, q1, q2, ln, g0, g1, g2, rowB, sz2, -Bool.or_eq_true, -Bool.or_eq_false_iff]
        | _ => cases hs
  | _ => rfl
end G
namespace G
open PySem PySem.Spec PyProof.Rows L2 F
theorem isi_t' {d : D} (h : d.ob = false) : isiM "tuple" d = .ret (.bl (tupB d)) := isi_t h
theorem not_tup {d : D} (h : tupB d = false) (o : d.ob = false) : isiM "tuple" d = .ret (.bl false) := by rw [isi_t o, h]
/-! ## texts -/
theorem fit_lst {xs : List D} (f : Fit (.tup xs)) : (D.lst xs).sh = true := sh_lst.mpr (sh_tup.mp f.sh)
/-! ## sets of numbers -/
def ascI (ns : List Int) : Bool := (ns.zip (ns.drop 1)).all fun p => decide (p.1 < p.2)
theorem ascI_iff : ∀ ns : List Int, ascI ns = true ↔ ns.Pairwise (· < ·)
  | [] => by simp [ascI]
  | [a] => by simp [ascI]
  | a :: b :: r => by
    have ih := ascI_iff (b :: r)
    have e : ascI (a :: b :: r) = (decide (a < b) && ascI (b :: r)) := rfl
    rw [e, Bool.and_eq_true, ih, decide_eq_true_eq, List.pairwise_cons (a := a)]
    constructor
    · rintro ⟨h1, h2⟩
      refine ⟨fun x hx => ?_, h2⟩
      rcases List.mem_cons.mp hx with e | e
      · subst e; exact h1
      · exact Int.lt_trans h1 ((List.pairwise_cons.mp h2).1 x e)
    · rintro ⟨h1, h2⟩
      exact ⟨h1 b List.mem_cons_self, h2⟩
def intsB (xs : List D) : List Int := xs.filterMap fun d => match d with
  | .int i => some i
  | _ => none
def gapsB (d : D) : Bool := tupB d && ((itms d).all numB && ascI (intsB (itms d)))
theorem num_ints : ∀ {xs : List D}, xs.all numB = true → xs = (intsB xs).map D.int
  | [], _ => rfl
  | x :: xs, h => by
    rw [List.all_cons, Bool.and_eq_true] at h
    cases x with
    | int i =>
      have := num_ints h.2
      show D.int i :: xs = D.int i :: (intsB xs).map D.int
      rw [← this]
    | _ => exact absurd h.1 (by simp [numB])
theorem zip_asc (ns : List Int) : (zipD (ns.map D.int) ((ns.drop 1).map D.int)).map (fun d => match d with | .tup [.int a, .int b] => D.bl (decide (a < b)) | _ => .non) = ((ns.zip (ns.drop 1)).map fun p => D.bl (decide (p.1 < p.2))) := by
  unfold zipD
  rw [List.zip_map, List.map_map, List.map_map]
  rfl
theorem slt (xs : List D) : sliceM (some 1) none (.tup xs) = .ret (.tup (xs.drop 1)) := by
  cases xs with
  | nil => rfl
  | cons a r => rw [sl1]; rfl
theorem is_gaps_eq {d : D} (ho : d.ob = false) (hm : ∀ x ∈ itms d, x.ob = false) (hl : (itms d).length ≤ 1000) : M_is_gaps [d] = .ret (.bl (gapsB d)) := by
  unfold M_is_gaps b_is_gaps
  cases d with
  | tup xs =>
    have hl : xs.length ≤ 1000 := hl
    have hn : nComp [1] (iAny (eVar 0)) (gN 1) tYesM (eF 1 M_is_number (aCons (eVar 1) aNil)) [.v (.tup xs), .no, .no] = .ret (xs.map fun d => .bl (numB d)) :=
      nComp_map _ rfl (sz1000 hl) fun d hd => ⟨_, rfl, is_number_eq (hm d hd)⟩
    cases q : xs.all numB with
    | false => simp [runB, startE, sSeq, sIf, sRet, sSet, sPar, sNil, sDrop, eBin, eUn, eC, eVar, eAnd, eOr, eNot, notD, eF, eCL, L1, L1N, nCL, aCons, aNil, eTup, nLst, eN, tV, tTru, asB, tru, tOrM, tAndM, tNotM, eIf, eSl, pSome, pNo, nUn, M.ret_bind, List.map_cons, List.map_nil, List.length_cons, List.length_nil, List.replicate, List.cons_append, List.nil_append, List.getElem?_cons_zero, List.getElem?_cons_succ, List.set_cons_zero, List.set_cons_succ, isi_ti, hn, all_l, q, gapsB, tupB, itms]
    | true =>
      have hx := num_ints q
      generalize hns : intsB xs = ns at hx
      subst hx
      have hz : nComp [1, 2] (iZipM (aCons (eVar 0) (aCons (eSl (eVar 0) (pSome (eC (.int 1))) pNo) aNil))) (gTn 2 (gAll1 (gN 1) (gAll1 (gN 2) gAll0))) tYesM (eBin ltM (eVar 1) (eVar 2)) [.v (.tup (ns.map D.int)), .no, .no]
          = .ret ((ns.zip (ns.drop 1)).map fun p => D.bl (decide (p.1 < p.2))) := by
        rw [← zip_asc]
        refine nComp_map _ ?_ ?_ fun d hd => ?_
        · simp only [runB, startE, sSeq, sIf, sRet, sSet, sPar, sNil, sDrop, eBin, eUn, eC, eVar, eAnd, eOr, eNot, notD, eF, eCL, L1, L1N, nCL, aCons, aNil, eTup, nLst, eN, tV, tTru, asB, tru, tOrM, tAndM, tNotM, eIf, eSl, pSome, pNo, nUn, M.ret_bind, List.map_cons, List.map_nil, List.length_cons, List.length_nil, List.replicate, List.cons_append, List.nil_append, List.getElem?_cons_zero, List.getElem?_cons_succ, List.set_cons_zero, List.set_cons_succ, iZipM, slt, List.map_drop]; rfl
        · unfold zipD; rw [List.length_map, List.length_zip, List.length_map]
          rw [List.length_map] at hl
          exact sz1000 (by omega)
        · unfold zipD at hd
          obtain ⟨p, hp, rfl⟩ := List.mem_map.mp hd
          rw [List.zip_map] at hp
          obtain ⟨q, _, rfl⟩ := List.mem_map.mp hp
          exact ⟨_, rfl, rfl⟩
      have hall : allM (.lst ((ns.zip (ns.drop 1)).map fun p => D.bl (decide (p.1 < p.2)))) = .ret (.bl (ascI ns)) := by
        unfold allM
        have : ((ns.zip (ns.drop 1)).map fun p => D.bl (decide (p.1 < p.2))) = ((ns.zip (ns.drop 1)).map fun p => decide (p.1 < p.2)).map D.bl := by rw [List.map_map]; rfl
        rw [this]
        simp only [blsOf_bl]
        unfold ascI
        rw [List.all_map]; rfl
      simp [runB, startE, sSeq, sIf, sRet, sSet, sPar, sNil, sDrop, eBin, eUn, eC, eVar, eAnd, eOr, eNot, notD, eF, eCL, L1, L1N, nCL, aCons, aNil, eTup, nLst, eN, tV, tTru, asB, tru, tOrM, tAndM, tNotM, eIf, eSl, pSome, pNo, nUn, M.ret_bind, List.map_cons, List.map_nil, List.length_cons, List.length_nil, List.replicate, List.cons_append, List.nil_append, List.getElem?_cons_zero, List.getElem?_cons_succ, List.set_cons_zero, List.set_cons_succ, isi_ti, hn, all_l, q, gapsB, tupB, itms, hz, hall, hns, -List.map_map, -List.drop_one]
  | obj _ => cases ho
  | scr _ => cases ho
  | _ => rfl
theorem eqvL_ints : ∀ ns ms : List Int, D.eqvL (ns.map D.int) (ms.map D.int) = (ns == ms)
  | [], [] => rfl
  | [], _ :: _ => rfl
  | _ :: _, [] => rfl
  | a :: ns, b :: ms => by
    show ((a == b) && D.eqvL (ns.map D.int) (ms.map D.int)) = (a :: ns == b :: ms)
    rw [eqvL_ints ns ms]; rfl
theorem fit_num {ns : List Int} (f : Fit (.tup (ns.map D.int))) (q : (ns.map D.int).all numB = true) : ns.length < 64 := by
  have h := f.ok
  simp only [D.ok, Bool.and_eq_true, q, Bool.not_true, Bool.false_or, decide_eq_true_eq, List.length_map] at h
  exact h.1.2
end G
namespace G
open PySem PySem.Spec PyProof.Rows L2 F
mutual
/-- at most so many signs when shown -/
def D.w : D → Nat
  | .non => 4
  | .bl _ => 5
  | .int _ => 64
  | .str x => 10 * x.length + 2
  | .tup xs => D.wL xs + 3
  | .lst xs => D.wL xs + 3
  | _ => 0
def D.wL : List D → Nat
  | [] => 0
  | x :: xs => D.w x + 2 + D.wL xs
end
theorem textFrom_le : ∀ (ts : List Str) (k : Nat) (acc : Str), (textFrom k acc ts).length ≤ acc.length + piled ts
  | [], k, acc => Nat.le_add_right _ _
  | t :: r, k, acc => by
    have ih := textFrom_le r (k + 1) (acc ++ (if k > 0 then ", " else "" : String) ++ t)
    have e : (acc ++ (if k > 0 then ", " else "" : String) ++ t).length ≤ acc.length + 2 + t.length := by
      rw [strLen_append, strLen_append]
      have e2 : ((if k > 0 then ", " else "" : String) : Str).length ≤ 2 := by split <;> decide
      omega
    rw [piled_cons]
    exact Nat.le_trans ih (by omega)
theorem listText_le (ts : List Str) : (listText ts).length ≤ piled ts + 3 := by
  unfold listText
  rw [strLen_append]
  have := textFrom_le ts 0 "["
  have e1 : (("[" : String) : Str).length = 1 := rfl
  have e2 : (("]" : String) : Str).length = 1 := rfl
  omega
theorem tupleText_le (ts : List Str) : (tupleText ts).length ≤ piled ts + 3 := by
  unfold tupleText
  rw [strLen_append, strLen_append]
  have e1 : (("(" : String) : Str).length = 1 := rfl
  have e2 : ((if ts.length == 1 then ",)" else ")" : String) : Str).length ≤ 2 := by split <;> decide
  by_cases h : ts = []
  · subst h
    have : (Str.join ", " ([] : List Str)).length = 0 := rfl
    omega
  · have := join_length_add ts h
    omega
mutual
theorem shown_le : ∀ (d : D) (p : PyData), D.ok d = true → d.py = some p → p.showable = true ∧ p.shown.length ≤ D.w d
  | .non, p, _, h => by cases h; exact ⟨rfl, by decide⟩
  | .bl b, p, _, h => by cases h; exact ⟨rfl, by cases b <;> decide⟩
  | .int i, p, ho, h => by
    cases h
    have hi : i.natAbs < 10 ^ 61 := by simpa [D.ok] using ho
    refine ⟨?_, ?_⟩
    · show decide (i.natAbs.log2 < 1920) = true
      refine decide_eq_true ?_
      by_cases h0 : i.natAbs = 0
      · rw [h0]; decide
      · exact Nat.lt_of_lt_of_le ((Nat.log2_lt h0 (k := 256)).mpr (Nat.lt_of_lt_of_le hi (by decide))) (by decide)
    · have := int_text_length_le10 (a := i) (k := 61) (by decide) hi
      have e : (Str.ofString (toString i)).length = (toString i).length := PySem.ofString_length _
      show (Str.ofString (toString i)).length ≤ 64
      rw [e]; omega
  | .str x, p, ho, h => by
    cases h
    simp only [D.ok, Bool.and_eq_true] at ho
    refine ⟨rfl, StrLaws.reprText_len x fun c hc => ?_⟩
    have := ho.1
    unfold PyData.strOk at this
    rw [← Array.all_toList, List.all_eq_true] at this
    have q := this c hc
    simp only [decide_eq_true_eq] at q
    exact Nat.lt_of_lt_of_le q (by decide)
  | .tup xs, p, ho, h => by
    obtain ⟨ps, e, rfl⟩ := D.py_tup h
    simp only [D.ok, Bool.and_eq_true] at ho
    obtain ⟨h1, h2⟩ := shownL_le xs ps ho.2 e
    exact ⟨h1, Nat.le_trans (tupleText_le _) (Nat.add_le_add_right h2 3)⟩
  | .lst xs, p, ho, h => by
    obtain ⟨ps, e, rfl⟩ := D.py_lst h
    simp only [D.ok, Bool.and_eq_true] at ho
    obtain ⟨h1, h2⟩ := shownL_le xs ps ho.2 e
    exact ⟨h1, Nat.le_trans (listText_le _) (Nat.add_le_add_right h2 3)⟩
  | .dic _, p, ho, h => by cases h
  | .obj _, p, ho, h => by cases h
  | .scr _, p, ho, h => by cases h
theorem shownL_le : ∀ (ds : List D) (ps : List PyData), D.okL ds = true → D.pyL ds = some ps → PyData.showableAll ps = true ∧ piled (PyData.shownAll ps) ≤ D.wL ds
  | [], ps, _, h => by cases h; exact ⟨rfl, Nat.le_refl _⟩
  | d :: ds, ps, ho, h => by
    obtain ⟨q, qs, e1, e2, rfl⟩ := D.pyL_cons h
    simp only [D.okL, Bool.and_eq_true] at ho
    obtain ⟨h1, h2⟩ := shown_le d q ho.1 e1
    obtain ⟨h3, h4⟩ := shownL_le ds qs ho.2 e2
    refine ⟨by simp [PyData.showableAll, h1, h3], ?_⟩
    show piled (q.shown :: PyData.shownAll qs) ≤ D.w d + 2 + D.wL ds
    rw [piled_cons]; omega
end
/-- what repr answers -/
theorem shown_ok {d : D} (f : d.dep ≤ 60) (ho : D.ok d = true) (hw : D.w d ≤ 16777216) : ∃ z, shownM d = .ret (.str z) := by
  have hs : d.sh = true := Fit.sh ⟨ho, f⟩
  obtain ⟨p, e, _, _⟩ := D.py_pl d (ok_pl d ho)
  obtain ⟨h1, h2⟩ := shown_le d p ho e
  refine ⟨p.shown, ?_⟩
  unfold shownM
  rw [if_pos hs]
  simp only [e]
  rw [if_pos ⟨h1, by rw [sizeLine_eq]; omega⟩]
theorem add_l (a b : List D) (h : a.length + b.length ≤ 1000) : addM (.lst a) (.lst b) = .ret (.lst (a ++ b)) := if_pos (sz1000 h)
end G
namespace G
open PySem PySem.Spec PyProof.Rows L2 F
/-! ## bounds of what is drawn -/
mutual
def D.g (n : Nat) : D → Bool
  | .non => true
  | .bl _ => true
  | .int i => decide (i.natAbs ≤ 10 ^ 59 + n)
  | .str x => PyData.strOk x && decide (x.length ≤ 70 + n)
  | .tup xs => decide (xs.length ≤ 10 + n) && D.gL n xs
  | .lst xs => decide (xs.length ≤ 10 + n) && D.gL n xs
  | _ => false
def D.gL (n : Nat) : List D → Bool
  | [] => true
  | x :: xs => D.g n x && D.gL n xs
end
mutual
theorem g_ok {n : Nat} (hn : n ≤ 20) : ∀ d : D, D.g n d = true → D.ok d = true
  | .non, _ => rfl
  | .bl _, _ => rfl
  | .int i, h => by
    simp only [D.g, decide_eq_true_eq] at h
    simp only [D.ok, decide_eq_true_eq]
    have : (10 : Nat) ^ 59 + 20 < 10 ^ 61 := by decide
    omega
  | .str x, h => by
    simp only [D.g, Bool.and_eq_true, decide_eq_true_eq] at h
    simp only [D.ok, Bool.and_eq_true, decide_eq_true_eq]
    exact ⟨h.1, by omega⟩
  | .tup xs, h => by
    simp only [D.g, Bool.and_eq_true, decide_eq_true_eq] at h
    simp only [D.ok, Bool.and_eq_true, decide_eq_true_eq, Bool.or_eq_true]
    exact ⟨⟨by omega, .inr (by omega)⟩, gL_ok hn xs h.2⟩
  | .lst xs, h => by
    simp only [D.g, Bool.and_eq_true, decide_eq_true_eq] at h
    simp only [D.ok, Bool.and_eq_true, decide_eq_true_eq]
    exact ⟨by omega, gL_ok hn xs h.2⟩
  | .dic _, h => by simp [D.g] at h
  | .obj _, h => by simp [D.g] at h
  | .scr _, h => by simp [D.g] at h
theorem gL_ok {n : Nat} (hn : n ≤ 20) : ∀ ds : List D, D.gL n ds = true → D.okL ds = true
  | [], _ => rfl
  | d :: ds, h => by
    simp only [D.gL, Bool.and_eq_true] at h
    simp only [D.okL, Bool.and_eq_true]
    exact ⟨g_ok hn d h.1, gL_ok hn ds h.2⟩
end
mutual
theorem g_mono {n m : Nat} (hn : n ≤ m) : ∀ d : D, D.g n d = true → D.g m d = true
  | .non, _ => rfl
  | .bl _, _ => rfl
  | .int i, h => by
    simp only [D.g, decide_eq_true_eq] at h ⊢; omega
  | .str x, h => by
    simp only [D.g, Bool.and_eq_true, decide_eq_true_eq] at h ⊢
    exact ⟨h.1, by omega⟩
  | .tup xs, h => by
    simp only [D.g, Bool.and_eq_true, decide_eq_true_eq] at h ⊢
    exact ⟨by omega, gL_mono hn xs h.2⟩
  | .lst xs, h => by
    simp only [D.g, Bool.and_eq_true, decide_eq_true_eq] at h ⊢
    exact ⟨by omega, gL_mono hn xs h.2⟩
  | .dic _, h => by simp [D.g] at h
  | .obj _, h => by simp [D.g] at h
  | .scr _, h => by simp [D.g] at h
theorem gL_mono {n m : Nat} (hn : n ≤ m) : ∀ ds : List D, D.gL n ds = true → D.gL m ds = true
  | [], _ => rfl
  | d :: ds, h => by
    simp only [D.gL, Bool.and_eq_true] at h ⊢
    exact ⟨g_mono hn d h.1, gL_mono hn ds h.2⟩
end
theorem gL_iff {n : Nat} {ds : List D} : D.gL n ds = true ↔ ∀ d ∈ ds, D.g n d = true := by
  induction ds with
  | nil => simp [D.gL]
  | cons x xs ih => simp [D.gL, ih]
theorem depL_iff {ds : List D} {k : Nat} : D.depL ds ≤ k ↔ ∀ d ∈ ds, d.dep ≤ k := by
  induction ds with
  | nil => simp [D.depL]
  | cons x xs ih =>
    simp only [D.depL, List.forall_mem_cons, ← ih]
    omega
theorem wL_append (a b : List D) : D.wL (a ++ b) = D.wL a + D.wL b := by
  induction a with
  | nil => simp [D.wL]
  | cons x a ih => simp only [List.cons_append, D.wL, ih]; omega
theorem wL_le {W : Nat} : ∀ {ds : List D}, (∀ d ∈ ds, D.w d ≤ W) → D.wL ds ≤ ds.length * (W + 2)
  | [], _ => Nat.zero_le _
  | d :: ds, h => by
    have h1 := h d List.mem_cons_self
    have h2 := wL_le fun x hx => h x (List.mem_cons_of_mem _ hx)
    simp only [D.wL, List.length_cons, Nat.add_mul]
    omega
/-- bounded data -/
structure Ty (n k W : Nat) (d : D) : Prop where
  g : D.g n d = true
  k : d.dep ≤ k
  w : D.w d ≤ W
theorem Ty.mono {n k W n' k' W' : Nat} {d : D} (t : Ty n k W d) (h1 : n ≤ n' := by omega) (h2 : k ≤ k' := by omega) (h3 : W ≤ W' := by omega) : Ty n' k' W' d := ⟨g_mono h1 d t.g, Nat.le_trans t.k h2, Nat.le_trans t.w h3⟩
theorem Ty.fit {n k W : Nat} {d : D} (t : Ty n k W d) (hn : n ≤ 20) (hk : k ≤ 60) : Fit d := ⟨g_ok hn d t.g, Nat.le_trans t.k hk⟩
theorem Ty.tup {n k W : Nat} {xs : List D} (h : ∀ x ∈ xs, Ty n k W x) (hl : xs.length ≤ 10 + n) : Ty n (k + 1) (xs.length * (W + 2) + 3) (.tup xs) := by
  refine ⟨?_, ?_, ?_⟩
  · simp only [D.g, Bool.and_eq_true, decide_eq_true_eq]
    exact ⟨hl, gL_iff.mpr fun x hx => (h x hx).g⟩
  · show D.depL xs + 1 ≤ k + 1
    have := depL_iff.mpr fun x hx => (h x hx).k
    omega
  · show D.wL xs + 3 ≤ _
    have := wL_le fun x hx => (h x hx).w
    omega
theorem tyB {n k W : Nat} {d : D} (h : (D.g n d && (decide (d.dep ≤ k) && decide (D.w d ≤ W))) = true) : Ty n k W d := by
  simp only [Bool.and_eq_true, decide_eq_true_eq] at h
  exact ⟨h.1, h.2.1, h.2.2⟩
/-! ## what is drawn -/
structure Gen {α : Type} (m : M α) (P : α → Prop) : Prop where
  run : wp m [.feed] (fun a S => S = [.feed] ∧ P a) (fun _ _ => False)
theorem Gen.mono {α : Type} {m : M α} {P Q : α → Prop} (h : Gen m P) (hq : ∀ a, P a → Q a) : Gen m Q := ⟨wp_mono h.run (fun a S ⟨e, p⟩ => ⟨e, hq a p⟩) fun _ _ z => z⟩
theorem Gen.ret {α : Type} {a : α} {P : α → Prop} (h : P a) : Gen (.ret a) P := ⟨⟨rfl, h⟩⟩
theorem Gen.bind {α β : Type} {m : M α} {f : α → M β} {P : α → Prop} {Q : β → Prop} (h : Gen m P) (hf : ∀ a, P a → Gen (f a) Q) : Gen (m >>= f) Q :=
  ⟨wp_bind.mpr (wp_mono h.run (fun a S ⟨e, p⟩ => by subst e; exact (hf a p).run) fun _ _ z => z.elim)⟩
theorem gen_draw (n : Int) (h0 : 0 < n) (h1 : n < 1073741824) : Gen (M__law_draw [.obj 0, .int n]) fun d => ∃ i, d = .int i ∧ 0 ≤ i ∧ i < n :=
  ⟨⟨⟨_, rfl, rfl⟩, h0, h1, fun i a b => ⟨rfl, i, rfl, a, b⟩⟩⟩
theorem at_mem {xs : List D} {i : Int} (h0 : 0 ≤ i) (h1 : i < xs.length) : ∃ x ∈ xs, atI xs i = some x := by
  have hl : i.toNat < xs.length := by omega
  refine ⟨xs[i.toNat], List.getElem_mem _, ?_⟩
  unfold atI ixN
  rw [if_pos h0, if_pos h1]
  exact List.getElem?_eq_getElem hl
end G
namespace G
open PySem PySem.Spec PyProof.Rows L2 F
/-- a short sound text -/
abbrev Nm (d : D) : Prop := Ty 0 0 90 d
theorem zl {n : Nat} (h : n ≤ 1000) : (n ≤ sizeLine) = True := eq_true (sz1000 h)
theorem lt_c (i j : Int) : ltM (.int i) (.int j) = .ret (.bl (decide (i < j))) := rfl
theorem ty2 {k W : Nat} {a b : D} (ha : Ty 0 k W a) (hb : Ty 0 k W b) (W' : Nat) (h : 2 * (W + 2) + 3 ≤ W') : Ty 0 (k + 1) W' (.tup [a, b]) :=
  (Ty.tup (n := 0) (k := k) (W := W) (xs := [a, b]) (fun x hx => by
    rcases List.mem_cons.mp hx with e | hx
    · subst e; exact ha
    · have : x = b := by simpa using hx
      subst this; exact hb) (by simp)).mono (h3 := by simpa using h)
theorem ty3 {k W : Nat} {a b c : D} (ha : Ty 0 k W a) (hb : Ty 0 k W b) (hc : Ty 0 k W c) (W' : Nat) (h : 3 * (W + 2) + 3 ≤ W') : Ty 0 (k + 1) W' (.tup [a, b, c]) :=
  (Ty.tup (n := 0) (k := k) (W := W) (xs := [a, b, c]) (fun x hx => by
    rcases List.mem_cons.mp hx with e | hx
    · subst e; exact ha
    rcases List.mem_cons.mp hx with e | hx
    · subst e; exact hb
    · have : x = c := by simpa using hx
      subst this; exact hc) (by simp)).mono (h3 := by simpa using h)
/-! ## comprehensions that draw -/
theorem gen_comp {gm : GM} {em : Ev → M D} {ρ : Ev} {P : D → Prop} : ∀ ds : List D, (∀ d ∈ ds, ∃ ρ', gm d ρ = some ρ' ∧ Gen (em ρ') P) → Gen (compM (compI gm tYesM em ρ) ds) fun r => r.length = ds.length ∧ ∀ x ∈ r, P x
  | [], _ => Gen.ret ⟨rfl, fun x hx => (nomatch hx)⟩
  | d :: ds, h => by
    obtain ⟨ρ', h1, h2⟩ := h d List.mem_cons_self
    have ih := gen_comp (gm := gm) (em := em) (ρ := ρ) (P := P) ds fun x hx => h x (List.mem_cons_of_mem _ hx)
    have hc : compI gm tYesM em ρ d = em ρ' >>= fun y => M.ret (some y) := by
      unfold compI
      rw [h1]; rfl
    show Gen (compI gm tYesM em ρ d >>= fun o => compM (compI gm tYesM em ρ) ds >>= fun r => M.ret (o.toList ++ r)) _
    rw [hc, M.bind_assoc]
    refine Gen.bind h2 fun y hy => ?_
    show Gen (compM (compI gm tYesM em ρ) ds >>= fun r => M.ret ((some y).toList ++ r)) _
    refine Gen.bind ih fun r ⟨e, hr⟩ => Gen.ret ⟨by simp [e], fun x hx => ?_⟩
    rcases List.mem_cons.mp (show x ∈ y :: r from hx) with q | q
    · subst q; exact hy
    · exact hr x q
theorem gen_noerr {α : Type} {m : M α} {P : α → Prop} (h : Gen m P) : Gen m.noerr P := ⟨wp_noerr.mpr h.run⟩
theorem gen_nComp {vs : List Nat} {it : Ev → M (List D)} {gm : GM} {em : Ev → M D} {ρ : Ev} {P : D → Prop} {n : Nat} (hi : Gen (it ρ) fun ds => ds.length ≤ n ∧ ∀ d ∈ ds, ∃ ρ', gm d (wipeE ρ vs) = some ρ' ∧ Gen (em ρ') P) (hn : n ≤ 1000) :
    Gen (nComp vs it gm tYesM em ρ) fun r => r.length ≤ n ∧ ∀ x ∈ r, P x := by
  unfold nComp
  refine Gen.bind hi fun ds ⟨hl, h⟩ => ?_
  rw [if_pos (sz1000 (by omega))]
  exact gen_noerr ((gen_comp ds h).mono fun r ⟨e, q⟩ => ⟨by omega, q⟩)
theorem rangeD_len (a : Int) (n : Nat) : (rangeD a n).length = n := by unfold rangeD; simp
end G
namespace G
open PySem PySem.Spec PyProof.Rows L2 F
theorem gen_nCompL {vs : List Nat} {it : Ev → M (List D)} {gm : GM} {em : Ev → M D} {ρ : Ev} {P : D → Prop} {L : Nat → Prop} (hi : Gen (it ρ) fun ds => (L ds.length ∧ ds.length ≤ 1000) ∧ ∀ d ∈ ds, ∃ ρ', gm d (wipeE ρ vs) = some ρ' ∧ Gen (em ρ') P) :
    Gen (nComp vs it gm tYesM em ρ) fun r => L r.length ∧ ∀ x ∈ r, P x := by
  unfold nComp
  refine Gen.bind hi fun ds ⟨⟨hL, hl⟩, h⟩ => ?_
  rw [if_pos (sz1000 hl)]
  exact gen_noerr ((gen_comp ds h).mono fun r ⟨e, q⟩ => ⟨by rw [e]; exact hL, q⟩)
theorem rng1_i (i : Int) (h0 : 0 ≤ i) (h1 : i ≤ 1000) : rng1 [.int i] = .ret (rangeD 0 i.toNat) := if_pos ⟨by omega, by omega⟩
theorem mem_ty {n k W : Nat} {d : D} {L : List D} (hd : d ∈ L) (h : (L.all fun d => D.g n d && (decide (d.dep ≤ k) && decide (D.w d ≤ W))) = true) : Ty n k W d := tyB (List.all_eq_true.mp h d hd)
end G
namespace G
open PySem PySem.Spec PyProof.Rows L2 F
/-! ## pieces -/
theorem cut_to {α : Type} (xs : List α) (k : Int) (h : 0 ≤ k) : cutL xs none (some k) = xs.take k.toNat := by
  unfold cutL
  have e : (some k : Option Int) = some ((k.toNat : Nat) : Int) := by congr 1; omega
  rw [e, HT.sIx_nat, HT.sIx_none, List.drop_zero, Nat.sub_zero]
  rcases Nat.le_total k.toNat xs.length with q | q
  · rw [Nat.min_eq_left q]
  · rw [Nat.min_eq_right q, List.take_of_length_le (Nat.le_refl _), List.take_of_length_le q]
theorem cut_from {α : Type} (xs : List α) (k : Int) (h : 0 ≤ k) : cutL xs (some k) none = xs.drop k.toNat := by
  unfold cutL
  have e : (some k : Option Int) = some ((k.toNat : Nat) : Int) := by congr 1; omega
  rw [e, HT.sIx_nat, HT.sIx_none]
  rcases Nat.le_total k.toNat xs.length with q | q
  · rw [Nat.min_eq_left q]
    exact List.take_of_length_le (by rw [List.length_drop]; omega)
  · rw [Nat.min_eq_right q, List.drop_of_length_le (Nat.le_refl _), List.drop_of_length_le q]; simp
theorem cut_mid {α : Type} (xs : List α) (k : Int) (h : 0 ≤ k) (h1 : k ≤ xs.length) : cutL xs (some k) (some (k + 1)) = (xs.drop k.toNat).take 1 := by
  unfold cutL
  have e : (some k : Option Int) = some ((k.toNat : Nat) : Int) := by congr 1; omega
  have e2 : (some (k + 1) : Option Int) = some ((k.toNat + 1 : Nat) : Int) := by congr 1; omega
  rw [e2, e, HT.sIx_nat, HT.sIx_nat]
  rcases Nat.lt_or_ge k.toNat xs.length with q | q
  · rw [Nat.min_eq_left (show k.toNat + 1 ≤ xs.length by omega), Nat.min_eq_left (show k.toNat ≤ xs.length by omega), Nat.add_sub_cancel_left]
  · rw [List.drop_of_length_le (show xs.length ≤ min k.toNat xs.length by omega), List.drop_of_length_le q]; simp
/-- a piece of a bounded row -/
structure Pc (n k W l : Nat) (xs : List D) : Prop where
  g : ∀ x ∈ xs, D.g n x = true
  k : ∀ x ∈ xs, x.dep ≤ k
  w : D.wL xs ≤ W
  l : xs.length ≤ l
theorem Pc.app {n k W l W' l' : Nat} {a b : List D} (p : Pc n k W l a) (q : Pc n k W' l' b) : Pc n k (W + W') (l + l') (a ++ b) := by
  refine ⟨fun x hx => ?_, fun x hx => ?_, by rw [wL_append]; have := p.w; have := q.w; omega, by rw [List.length_append]; have := p.l; have := q.l; omega⟩
  · rcases List.mem_append.mp hx with h | h
    · exact p.g x h
    · exact q.g x h
  · rcases List.mem_append.mp hx with h | h
    · exact p.k x h
    · exact q.k x h
theorem Pc.mono {n k W l n' k' W' l' : Nat} {a : List D} (p : Pc n k W l a) (h1 : n ≤ n' := by omega) (h2 : k ≤ k' := by omega) (h3 : W ≤ W' := by omega) (h4 : l ≤ l' := by omega) : Pc n' k' W' l' a :=
  ⟨fun x hx => g_mono h1 x (p.g x hx), fun x hx => Nat.le_trans (p.k x hx) h2, Nat.le_trans p.w h3, Nat.le_trans p.l h4⟩
theorem Pc.tup {n k W l : Nat} {a : List D} (p : Pc n k W l a) (hl : l ≤ 10 + n) : Ty n (k + 1) (W + 3) (.tup a) := by
  refine ⟨?_, ?_, ?_⟩
  · simp only [D.g, Bool.and_eq_true, decide_eq_true_eq]
    exact ⟨Nat.le_trans p.l hl, gL_iff.mpr p.g⟩
  · show D.depL a + 1 ≤ k + 1
    have := depL_iff.mpr p.k
    omega
  · show D.wL a + 3 ≤ _
    have := p.w
    omega
theorem Pc.lst {n k W l : Nat} {a : List D} (p : Pc n k W l a) (hl : l ≤ 10 + n) : Ty n (k + 1) (W + 3) (.lst a) := by
  refine ⟨?_, ?_, ?_⟩
  · simp only [D.g, Bool.and_eq_true, decide_eq_true_eq]
    exact ⟨Nat.le_trans p.l hl, gL_iff.mpr p.g⟩
  · show D.depL a + 1 ≤ k + 1
    have := depL_iff.mpr p.k
    omega
  · show D.wL a + 3 ≤ _
    have := p.w
    omega
theorem Pc.one {n k W : Nat} {d : D} (t : Ty n k W d) : Pc n k (W + 2) 1 [d] := by
  refine ⟨fun x hx => ?_, fun x hx => ?_, ?_, Nat.le_refl _⟩
  · have : x = d := by simpa using hx
    subst this; exact t.g
  · have : x = d := by simpa using hx
    subst this; exact t.k
  · show D.w d + 2 + 0 ≤ _
    have := t.w; omega
/-- of a bounded row's own parts -/
theorem Pc.of {n : Nat} {xs : List D} (g : D.g n (.tup xs) = true) : Pc n (D.depL xs) (D.wL xs) xs.length xs := by
  simp only [D.g, Bool.and_eq_true, decide_eq_true_eq] at g
  exact ⟨gL_iff.mp g.2, fun x hx => depL_iff.mp (Nat.le_refl _) x hx, Nat.le_refl _, Nat.le_refl _⟩
theorem Pc.sub {n k W l : Nat} {a b : List D} (p : Pc n k W l a) (h : ∀ x ∈ b, x ∈ a) : Pc n k (D.wL b) b.length b := ⟨fun x hx => p.g x (h x hx), fun x hx => p.k x (h x hx), Nat.le_refl _, Nat.le_refl _⟩
theorem wL_split (xs : List D) (k : Nat) : D.wL (xs.take k) + D.wL (xs.drop k) = D.wL xs := by rw [← wL_append, List.take_append_drop]
theorem drop_at {xs : List D} {i : Nat} {x : D} (e : xs[i]? = some x) : xs.drop i = x :: xs.drop (i + 1) := F.drop_cons e
theorem wL_rev (xs : List D) : D.wL xs.reverse = D.wL xs := by
  induction xs with
  | nil => rfl
  | cons x xs ih => rw [List.reverse_cons, wL_append, ih]; simp only [D.wL]; omega
theorem tkS {k : Nat} {xs : List D} : ∀ x ∈ xs.take k, x ∈ xs := fun x h => List.mem_of_mem_take h
theorem dpS {k : Nat} {xs : List D} : ∀ x ∈ xs.drop k, x ∈ xs := fun x h => List.mem_of_mem_drop h
theorem add_t (a b : List D) (h : a.length + b.length ≤ 1000) : addM (.tup a) (.tup b) = .ret (.tup (a ++ b)) := if_pos (sz1000 h)
theorem sl_to (xs : List D) (k : Int) (h : 0 ≤ k) : sliceM none (some k) (.tup xs) = .ret (.tup (xs.take k.toNat)) := by show M.ret (D.tup (cutL xs none (some k))) = _; rw [cut_to xs k h]
theorem sl_from (xs : List D) (k : Int) (h : 0 ≤ k) : sliceM (some k) none (.tup xs) = .ret (.tup (xs.drop k.toNat)) := by show M.ret (D.tup (cutL xs (some k) none)) = _; rw [cut_from xs k h]
theorem sl_mid (xs : List D) (k : Int) (h : 0 ≤ k) (h1 : k ≤ xs.length) : sliceM (some k) (some (k + 1)) (.tup xs) = .ret (.tup ((xs.drop k.toNat).take 1)) := by show M.ret (D.tup (cutL xs (some k) (some (k + 1)))) = _; rw [cut_mid xs k h h1]
/-! ## texts' pieces -/
theorem cutS_to (z : Str) (k : Int) (h : 0 ≤ k) : cutS z none (some k) = ⟨(z.cps.toList.take k.toNat).toArray⟩ := by
  have := cut_to z.cps.toList k h
  unfold cutL at this
  unfold cutS
  rw [show z.length = z.cps.toList.length from by rw [Array.length_toList]; rfl, this]
theorem cutS_from (z : Str) (k : Int) (h : 0 ≤ k) : cutS z (some k) none = ⟨(z.cps.toList.drop k.toNat).toArray⟩ := by
  have := cut_from z.cps.toList k h
  unfold cutL at this
  unfold cutS
  rw [show z.length = z.cps.toList.length from by rw [Array.length_toList]; rfl, this]
theorem strOk_iff (s : Str) : PyData.strOk s = true ↔ ∀ c ∈ s.cps.toList, c < 0x110000 := by
  unfold PyData.strOk
  rw [← Array.all_toList, List.all_eq_true]
  simp only [decide_eq_true_eq]
theorem app_cps (a b : Str) : (a ++ b).cps.toList = a.cps.toList ++ b.cps.toList := by
  show (a.cps ++ b.cps).toList = _
  rw [Array.toList_append]
theorem len_cps (a : Str) : a.length = a.cps.toList.length := by rw [Array.length_toList]; rfl
end G
namespace G
open PySem PySem.Spec PyProof.Rows L2 F
/-- as M.ret_bind, but no rfl for simp: the kernel is to take each step by itself -/
theorem M.retb {α β : Type} (a : α) (f : α → M β) : (M.ret a >>= f) = f a := Eq.trans (M.ret_bind a f) (Eq.refl _)
/-! ## stacks and layers, plain -/
def hdD : D → D
  | .tup (a :: _) => a
  | _ => .non
def opB (r : D) : Bool := strB "open" (hdD r)
def enB (r : D) : Bool := strB "end" (hdD r)
theorem op_en {r : D} (h : opB r = true) : enB r = false := by
  unfold opB at h
  unfold enB
  cases e : hdD r with
  | str s => rw [e] at h; exact str_ne (z := "end") h (by decide +kernel)
  | _ => rfl
def lay : List D → Nat → Nat → List Nat
  | [], _, _ => []
  | r :: rs, o, l => l :: (if opB r = true then lay rs (o + 1) l else if (enB r && decide (0 < o)) = true then lay rs (o - 1) l else if enB r = true then lay rs o (l + 1) else lay rs o l)
def nxt (r : D) (k : Int) (st : List Int) : List Int :=
  if opB r = true then st ++ [k] else if enB r = true then (if 1 < st.length then st.dropLast else [k]) else st
def stand : List D → Int → List Int → List (List Int)
  | [], _, _ => []
  | r :: rs, k, st => st :: stand rs (k + 1) (nxt r k st)
def aft : List D → Int → List Int → Nat → List Int
  | _, _, st, 0 => st
  | [], _, st, _ + 1 => st
  | r :: rs, k, st, n + 1 => aft rs (k + 1) (nxt r k st) n
theorem stand_len : ∀ (rs : List D) (k : Int) (st : List Int), (stand rs k st).length = rs.length
  | [], _, _ => rfl
  | r :: rs, k, st => congrArg (· + 1) (stand_len rs _ _)
theorem stand_drop : ∀ (rs : List D) (k : Int) (st : List Int) (n : Nat), (stand rs k st).drop n = stand (rs.drop n) (k + n) (aft rs k st n)
  | rs, k, st, 0 => by simp [aft]
  | [], k, st, n + 1 => by simp [stand]
  | r :: rs, k, st, n + 1 => by
    show (stand rs (k + 1) (nxt r k st)).drop n = stand (rs.drop n) (k + (n + 1 : Nat)) (aft rs (k + 1) (nxt r k st) n)
    rw [stand_drop rs (k + 1) _ n]
    congr 1
    omega
theorem stand_take : ∀ (rs : List D) (k : Int) (st : List Int) (n : Nat), (stand rs k st).take n = stand (rs.take n) k st
  | rs, k, st, 0 => by simp [stand]
  | [], k, st, n + 1 => by simp [stand]
  | r :: rs, k, st, n + 1 => by
    show st :: (stand rs (k + 1) (nxt r k st)).take n = st :: stand (rs.take n) (k + 1) (nxt r k st)
    rw [stand_take rs]
/-- a ground, and rows opened ahead of k -/
def Pst (k : Int) (st : List Int) : Prop := st ≠ [] ∧ ∀ x ∈ st.tail, x < k
theorem Pst.nxt {k : Int} {st : List Int} (h : Pst k st) (r : D) : Pst (k + 1) (nxt r k st) := by
  obtain ⟨h0, h1⟩ := h
  cases st with
  | nil => exact absurd rfl h0
  | cons b tl =>
    unfold G.nxt
    split
    · refine ⟨by simp, fun x hx => ?_⟩
      have hx : x ∈ tl ++ [k] := hx
      rcases List.mem_append.mp hx with q | q
      · have := h1 x q; omega
      · have : x = k := by simpa using q
        omega
    · split
      · split
        · cases tl with
          | nil => simp at *
          | cons c tl =>
            refine ⟨by simp, fun x hx => ?_⟩
            have hx : x ∈ (c :: tl).dropLast := by simpa using hx
            have := h1 x ((List.dropLast_sublist _).subset hx)
            omega
        · exact ⟨by simp, fun x hx => by simp at hx⟩
      · exact ⟨h0, fun x hx => by have := h1 x hx; omega⟩
theorem Pst.aft : ∀ (rs : List D) {k : Int} {st : List Int} (n : Nat), n ≤ rs.length → Pst k st → Pst (k + n) (aft rs k st n)
  | rs, k, st, 0, _, h => by simpa [G.aft] using h
  | [], k, st, n + 1, hn, h => by simp at hn
  | r :: rs, k, st, n + 1, hn, h => by
    have := Pst.aft rs n (by simpa using hn) (h.nxt r)
    rw [show k + 1 + (n : Int) = k + (n + 1 : Nat) from by omega] at this
    exact this
def low (a : Int) (st : List Int) : Bool := decide (st.length = 1) || decide (st.getLastD 0 < a)
def q1 (a : Int) (p : D × List Int) : Bool := enB p.1 && low a p.2
structure Stk (a : Int) (o : Nat) (st : List Int) : Prop where
  ex : ∃ b lo hi, st = b :: (lo ++ hi) ∧ (∀ x ∈ lo, x < a) ∧ (∀ x ∈ hi, a ≤ x) ∧ hi.length = o
theorem Stk.low {a : Int} {o : Nat} {st : List Int} (h : Stk a o st) : low a st = decide (o = 0) := by
  obtain ⟨b, lo, hi, rfl, h1, h2, h3⟩ := h
  unfold G.low
  rcases List.eq_nil_or_concat hi with e | ⟨hi', x, e⟩
  · subst e
    have ho : o = 0 := h3.symm
    rw [decide_eq_true ho]
    rcases List.eq_nil_or_concat lo with e | ⟨lo', y, e⟩
    · subst e; simp
    · subst e
      have hy : y < a := h1 y (by simp)
      have : (b :: (lo'.concat y ++ [])).getLastD 0 = y := by rw [show b :: (lo'.concat y ++ []) = (b :: lo') ++ [y] by simp]; exact List.getLastD_concat ..
      rw [this, decide_eq_true hy, Bool.or_true]
  · subst e
    have hx : a ≤ x := h2 x (by simp)
    have ho : o ≠ 0 := by rw [← h3]; simp
    have : (b :: (lo ++ hi'.concat x)).getLastD 0 = x := by rw [show b :: (lo ++ hi'.concat x) = (b :: (lo ++ hi')) ++ [x] by simp]; exact List.getLastD_concat ..
    rw [this, decide_eq_false ho, decide_eq_false (show ¬ x < a by omega), decide_eq_false (by simp)]
    rfl
theorem Stk.open_ {a k : Int} {o : Nat} {st : List Int} (h : Stk a o st) (hk : a ≤ k) : Stk a (o + 1) (st ++ [k]) := by
  obtain ⟨b, lo, hi, rfl, h1, h2, h3⟩ := h
  refine ⟨b, lo, hi ++ [k], by simp, h1, fun x hx => ?_, by simp [h3]⟩
  rcases List.mem_append.mp hx with q | q
  · exact h2 x q
  · have : x = k := by simpa using q
    omega
theorem Stk.end_ {a k : Int} {o : Nat} {st : List Int} (h : Stk a o st) : Stk a (o - 1) (if 1 < st.length then st.dropLast else [k]) := by
  obtain ⟨b, lo, hi, rfl, h1, h2, h3⟩ := h
  rcases List.eq_nil_or_concat hi with e | ⟨hi', x, e⟩
  · subst e
    have ho : o = 0 := h3.symm
    subst ho
    rcases List.eq_nil_or_concat lo with e | ⟨lo', y, e⟩
    · subst e
      exact ⟨k, [], [], by simp, by simp, by simp, rfl⟩
    · subst e
      rw [if_pos (by simp)]
      refine ⟨b, lo', [], ?_, fun x hx => h1 x (by simp [hx]), by simp, rfl⟩
      rw [List.append_nil, List.append_nil, List.concat_eq_append, ← List.cons_append, List.dropLast_concat]
  · subst e
    rw [if_pos (by simp; omega)]
    refine ⟨b, lo, hi', ?_, h1, fun x hx => h2 x (by simp [hx]), by rw [← h3]; simp⟩
    rw [List.concat_eq_append, ← List.append_assoc, ← List.cons_append, List.dropLast_concat]
theorem lay_cnt (a : Int) : ∀ (rs : List D) (k : Int) (st : List Int) (o l i : Nat), Stk a o st → a ≤ k → i < rs.length → (lay rs o l)[i]? = some (l + (((rs.zip (stand rs k st)).take i).filter (q1 a)).length)
  | [], _, _, _, _, i, _, _, hi => by simp at hi
  | r :: rs, k, st, o, l, 0, h, hk, hi => by simp [lay]
  | r :: rs, k, st, o, l, i + 1, h, hk, hi => by
    have hi : i < rs.length := by simpa using hi
    have hk' : a ≤ k + 1 := by omega
    have zz : ((r :: rs).zip (stand (r :: rs) k st)).take (i + 1) = (r, st) :: (rs.zip (stand rs (k + 1) (nxt r k st))).take i := rfl
    rw [zz, List.filter_cons]
    have hl := h.low
    have hq : q1 a (r, st) = (enB r && decide (o = 0)) := by unfold q1; rw [hl]
    rw [hq]
    unfold lay
    rw [List.getElem?_cons_succ]
    by_cases ho : opB r = true
    · rw [if_pos ho, op_en ho]
      have hn : nxt r k st = st ++ [k] := if_pos ho
      have ih := lay_cnt a rs (k + 1) (nxt r k st) (o + 1) l i (by rw [hn]; exact h.open_ hk) hk' hi
      simpa using ih
    · rw [if_neg ho]
      by_cases he : enB r = true
      · have hn : nxt r k st = if 1 < st.length then st.dropLast else [k] := by unfold nxt; rw [if_neg ho, if_pos he]
        have hs : Stk a (o - 1) (nxt r k st) := by rw [hn]; exact h.end_
        by_cases h0 : 0 < o
        · rw [if_pos (by simp [he, h0]), he]
          have ih := lay_cnt a rs (k + 1) (nxt r k st) (o - 1) l i hs hk' hi
          rw [if_neg (by simp; omega)]
          exact ih
        · have h0 : o = 0 := by omega
          subst h0
          rw [if_neg (by simp), if_pos he, he]
          have ih := lay_cnt a rs (k + 1) (nxt r k st) 0 (l + 1) i hs hk' hi
          rw [if_pos (by simp)]
          rw [ih]
          simp only [List.length_cons]
          congr 1
          omega
      · have he : enB r = false := by simpa using he
        have hn : nxt r k st = st := by unfold nxt; rw [if_neg ho, if_neg (by rw [he]; exact Bool.false_ne_true)]
        rw [he]
        have ih := lay_cnt a rs (k + 1) (nxt r k st) o l i (by rw [hn]; exact h) hk' hi
        simpa using ih
theorem lay_len : ∀ (rs : List D) (o l : Nat), (lay rs o l).length = rs.length
  | [], _, _ => rfl
  | r :: rs, o, l => by
    unfold lay
    rw [List.length_cons, List.length_cons]
    split
    · rw [lay_len rs]
    · split
      · rw [lay_len rs]
      · split <;> rw [lay_len rs]
/-- the stacks ahead of each row -/
@[irreducible] def around (rs : List D) : List (List Int) := stand rs 0 [-1]
/-- end rows of opened-ahead blocks and of grounds from a on, i rows far -/
@[irreducible] def ends (rs : List D) (a i : Nat) : Nat := ((((rs.zip (around rs)).drop a).take i).filter (q1 a)).length
theorem lay_ends (rs : List D) (a m i : Nat) (ha : a + m ≤ rs.length) (hi : i < m) : (lay ((rs.drop a).take m) 0 0)[i]? = some (ends rs a i) := by
  have hp : Pst ((0 : Int) + a) (aft rs 0 [-1] a) := Pst.aft rs a (by omega) ⟨by simp, fun x hx => by simp at hx⟩
  have hs : Stk (a : Int) 0 (aft rs 0 [-1] a) := by
    obtain ⟨h0, h1⟩ := hp
    cases e : aft rs 0 [-1] a with
    | nil => exact absurd e h0
    | cons b tl =>
      rw [e] at h1
      exact ⟨b, tl, [], by simp, fun x hx => by have := h1 x hx; omega, by simp, rfl⟩
  rw [lay_cnt (a : Int) ((rs.drop a).take m) ((0 : Int) + a) (aft rs 0 [-1] a) 0 0 i hs (by omega) (by rw [List.length_take, List.length_drop]; omega)]
  have e1 : stand ((rs.drop a).take m) ((0 : Int) + a) (aft rs 0 [-1] a) = ((around rs).drop a).take m := by
    unfold around
    rw [stand_drop, stand_take]
  have e2 : ((rs.drop a).take m).zip (((around rs).drop a).take m) = ((rs.zip (around rs)).drop a).take m := by
    unfold List.zip
    rw [List.drop_zipWith, List.take_zipWith]
  rw [e1, e2, List.take_take, Nat.min_eq_left (by omega), Nat.zero_add]
  unfold ends
  rfl
end G
namespace G
open PySem PySem.Spec PyProof.Rows L2 F
/-! ## segments, plain -/
def ahd (ms : List Int) (k : Int) : List Int := ms.filter fun c => decide (c ≤ k)
def bhd (ms : List Int) (k : Int) : List Int := ms.filter fun c => decide (k < c)
def seg (ms : List Int) (n k : Int) : Option (Int × Int) := match ahd ms k with
  | [] => none
  | a :: r => some ((a :: r).getLastD 0, (bhd ms k).headD n)
def inS (k : Int) (p : Int × Int) : Bool := decide (p.1 ≤ k) && decide (k < p.2)
theorem ahd_none {ms : List Int} {k : Int} (h : ∀ c ∈ ms, k < c) : ahd ms k = [] := by
  unfold ahd
  rw [List.filter_eq_nil_iff]
  intro c hc
  have := h c hc
  simp; omega
theorem bhd_all {ms : List Int} {k : Int} (h : ∀ c ∈ ms, k < c) : bhd ms k = ms := by
  unfold bhd
  rw [List.filter_eq_self]
  intro c hc
  have := h c hc
  simpa using this
theorem zip_none {ms : List Int} {n k : Int} (h : ∀ c ∈ ms, k < c) (xs : List Int) : (ms.zip xs).filter (inS k) = [] := by
  rw [List.filter_eq_nil_iff]
  intro p hp
  have := h p.1 (List.of_mem_zip hp).1
  unfold inS
  simp; omega
theorem seg_zip : ∀ (ms : List Int) (n k : Int), ms.Pairwise (· < ·) → k < n → (ms.zip (ms.drop 1 ++ [n])).filter (inS k) = (seg ms n k).toList
  | [], n, k, _, _ => rfl
  | [c], n, k, _, hk => by
    show ([(c, n)]).filter (inS k) = _
    by_cases h : c ≤ k
    · have e : ahd [c] k = [c] := by unfold ahd; simp [h]
      have e2 : bhd [c] k = [] := by unfold bhd; simp; omega
      unfold seg
      rw [e, e2]
      simp [inS, h, hk]
    · have e : ahd [c] k = [] := by unfold ahd; simp; omega
      unfold seg
      rw [e]
      simp [inS, h]
  | c :: d :: r, n, k, hp, hk => by
    obtain ⟨h1, h2⟩ := List.pairwise_cons.mp hp
    have ih := seg_zip (d :: r) n k h2 hk
    have hz : (c :: d :: r).zip ((c :: d :: r).drop 1 ++ [n]) = (c, d) :: (d :: r).zip ((d :: r).drop 1 ++ [n]) := rfl
    rw [hz, List.filter_cons]
    by_cases hc : c ≤ k
    · have ea : ahd (c :: d :: r) k = c :: ahd (d :: r) k := by unfold ahd; rw [List.filter_cons, if_pos (by simpa using hc)]
      have eb : bhd (c :: d :: r) k = bhd (d :: r) k := by unfold bhd; rw [List.filter_cons, if_neg (by simp; omega)]
      by_cases hd : k < d
      · have hall : ∀ x ∈ d :: r, k < x := fun x hx => by
          rcases List.mem_cons.mp hx with e | hx
          · omega
          · have := (List.pairwise_cons.mp h2).1 x hx; omega
        rw [if_pos (by simp [inS, hc, hd]), zip_none (n := n) hall]
        unfold seg
        rw [ea, eb, ahd_none hall, bhd_all hall]
        rfl
      · rw [if_neg (by simp [inS]; omega), ih]
        have hdk : d ≤ k := by omega
        have ed : ahd (d :: r) k = d :: ahd r k := by unfold ahd; rw [List.filter_cons, if_pos (by simpa using hdk)]
        unfold seg
        rw [ea, eb, ed]
        rfl
    · rw [if_neg (by simp [inS, hc]), ih]
      have hall : ∀ x ∈ d :: r, k < x := fun x hx => by
        have := h1 x hx; omega
      have hall2 : ∀ x ∈ c :: d :: r, k < x := fun x hx => by
        rcases List.mem_cons.mp hx with e | hx
        · omega
        · exact hall x hx
      unfold seg
      rw [ahd_none hall, ahd_none hall2]
theorem seg_some {ms : List Int} {n k a b : Int} (h : seg ms n k = some (a, b)) (hp : ms.Pairwise (· < ·)) (hn : ∀ c ∈ ms, 0 ≤ c ∧ c ≤ n) (hk : k < n) : 0 ≤ a ∧ a ≤ k ∧ k < b ∧ b ≤ n := by
  have z := seg_zip ms n k hp hk
  rw [h] at z
  have hm : (a, b) ∈ (ms.zip (ms.drop 1 ++ [n])).filter (inS k) := by rw [z]; simp
  rw [List.mem_filter] at hm
  obtain ⟨h1, h2⟩ := hm
  obtain ⟨m1, m2⟩ := List.of_mem_zip h1
  unfold inS at h2
  simp only [Bool.and_eq_true, decide_eq_true_eq] at h2
  refine ⟨(hn a m1).1, h2.1, h2.2, ?_⟩
  rcases List.mem_append.mp m2 with q | q
  · exact (hn b (List.mem_of_mem_drop q)).2
  · have : b = n := by simpa using q
    omega
theorem ahd_last {ms : List Int} {n k a b : Int} (h : seg ms n k = some (a, b)) : ahd ms k ≠ [] ∧ (ahd ms k).getLastD 0 = a ∧ (bhd ms k).headD n = b := by
  unfold seg at h
  cases e : ahd ms k with
  | nil => rw [e] at h; cases h
  | cons x r =>
    rw [e] at h
    have h := Option.some.inj h
    exact ⟨by simp, congrArg Prod.fst h, congrArg Prod.snd h⟩
theorem ahd_nil {ms : List Int} {n k : Int} (h : seg ms n k = none) : ahd ms k = [] := by
  unfold seg at h
  cases e : ahd ms k with
  | nil => rfl
  | cons x r => rw [e] at h; cases h
end G
namespace G
open PySem PySem.Spec PyProof.Rows L2 F
structure Row (r : D) : Prop where
  fit : Fit r
  ok : rowB r = true
  w : D.w r ≤ 300
  dp : r.dep ≤ 4
structure Pg (rs : List D) : Prop where
  len : rs.length ≤ 60
  row : ∀ r ∈ rs, Row r
theorem Row.hd {r : D} (h : Row r) : ∃ a l, r = .tup (a :: l) ∧ Fit a := by
  have q := h.ok
  have f := h.fit
  match r, q, f with
  | .tup (a :: l), q, f => exact ⟨a, l, rfl, f.mem a (by simp)⟩
  | .tup [], q, _ => cases q
theorem Row.ix {r : D} (h : Row r) : idxM r (.int 0) = .ret (hdD r) := by
  obtain ⟨a, l, rfl, _⟩ := h.hd
  exact ix0 a l
theorem Row.op {r : D} (h : Row r) : eqM (hdD r) (.str "open") = .ret (.bl (opB r)) := by
  obtain ⟨a, l, rfl, f⟩ := h.hd
  exact eq_s "open" f.sh (by decide +kernel)
theorem Row.en {r : D} (h : Row r) : eqM (hdD r) (.str "end") = .ret (.bl (enB r)) := by
  obtain ⟨a, l, rfl, f⟩ := h.hd
  exact eq_s "end" f.sh (by decide +kernel)
theorem want_ok (w a : D) : M_want [.bl true, w, a] = .ret .non := rfl
theorem want_loop (T w : D) : ∀ (ds : List D) (z2 z3 : Sl), (∀ d ∈ ds, ∃ i r, d = .tup [.int i, r] ∧ Row r) →
    ∃ ρ', forM (gTn 2 (gAll1 (gN 2) (gAll1 (gN 3) gAll0))) (sDrop (eF 3 M_want (aCons (eF 1 M_is_row (aCons (eVar 3) aNil)) (aCons (eVar 0) (aCons (eVar 2) aNil))))) ds [.v w, .v T, z2, z3] = .ret (.nx ρ')
  | [], z2, z3, _ => ⟨_, rfl⟩
  | d :: ds, z2, z3, h => by
    obtain ⟨i, r, rfl, hr⟩ := h d (by simp)
    obtain ⟨ρ', e⟩ := want_loop T w ds (.v (.int i)) (.v r) fun x hx => h x (List.mem_cons_of_mem _ hx)
    refine ⟨ρ', ?_⟩
    have hb : sDrop (eF 3 M_want (aCons (eF 1 M_is_row (aCons (eVar 3) aNil)) (aCons (eVar 0) (aCons (eVar 2) aNil)))) [.v w, .v T, .v (.int i), .v r] = .ret (.nx [.v w, .v T, .v (.int i), .v r]) := by
      simp only [runB, startE, sSeq, sIf, sRet, sSet, sPar, sNil, sDrop, eBin, eUn, eC, eVar, eAnd, eOr, eNot, notD, eF, eCL, L1, L1N, nCL, aCons, aNil, eTup, nLst, eN, tV, tTru, asB, tru, tOrM, tAndM, tNotM, eIf, eSl, pSome, pNo, nUn, M.retb, List.map_cons, List.map_nil, List.length_cons, List.length_nil, List.replicate, List.cons_append, List.nil_append, List.getElem?_cons_zero, List.getElem?_cons_succ, List.set_cons_zero, List.set_cons_succ, M.bind_assoc, if_true, zl, Nat.reduceAdd, Nat.reduceLeDiff, iAny, itM, iR1, iR2, iEnumM, sOwn, sFrz, sFrzD, sSetL, sAug, addA, subA, eFd, eFp, lV, lO, lNil, lD0, sPar2, sPar3, sAsg, is_row_eq hr.fit, hr.ok, want_ok]
    show (sDrop _ [.v w, .v T, .v (.int i), .v r] >>= _) = _
    rw [hb]
    exact e
theorem want_text_ok {rs : List D} (h : Pg rs) : M_want_text [.tup rs] = .ret .non := by
  have e : M_want_rows [.str "text", .tup rs] = .ret .non := by
    obtain ⟨ρ', q⟩ := want_loop (.tup rs) (.str "text") (enumD rs) .no .no fun d hd => by
      obtain ⟨i, hi⟩ := List.mem_iff_getElem?.mp hd
      obtain ⟨x, hx, rfl⟩ := enumD_get hi
      exact ⟨i, x, rfl, h.row x (List.mem_of_getElem? hx)⟩
    have hi : isiM "tuple" (.tup rs) = .ret (.bl true) := rfl
    unfold M_want_rows b_want_rows
    simp only [runB, startE, sSeq, sIf, sRet, sSet, sPar, sNil, sDrop, eBin, eUn, eC, eVar, eAnd, eOr, eNot, notD, eF, eCL, L1, L1N, nCL, aCons, aNil, eTup, nLst, eN, tV, tTru, asB, tru, tOrM, tAndM, tNotM, eIf, eSl, pSome, pNo, nUn, M.retb, List.map_cons, List.map_nil, List.length_cons, List.length_nil, List.replicate, List.cons_append, List.nil_append, List.getElem?_cons_zero, List.getElem?_cons_succ, List.set_cons_zero, List.set_cons_succ, M.bind_assoc, if_true, zl, Nat.reduceAdd, Nat.reduceLeDiff, iAny, itM, iR1, iR2, iEnumM, sOwn, sFrz, sFrzD, sSetL, sAug, addA, subA, eFd, eFp, lV, lO, lNil, lD0, sPar2, sPar3, sAsg, hi, want_ok, sFor, enumM]
    rw [q]
    rfl
  unfold M_want_text b_want_text
  simp only [runB, startE, sSeq, sIf, sRet, sSet, sPar, sNil, sDrop, eBin, eUn, eC, eVar, eAnd, eOr, eNot, notD, eF, eCL, L1, L1N, nCL, aCons, aNil, eTup, nLst, eN, tV, tTru, asB, tru, tOrM, tAndM, tNotM, eIf, eSl, pSome, pNo, nUn, M.retb, List.map_cons, List.map_nil, List.length_cons, List.length_nil, List.replicate, List.cons_append, List.nil_append, List.getElem?_cons_zero, List.getElem?_cons_succ, List.set_cons_zero, List.set_cons_succ, M.bind_assoc, if_true, zl, Nat.reduceAdd, Nat.reduceLeDiff, iAny, itM, iR1, iR2, iEnumM, sOwn, sFrz, sFrzD, sSetL, sAug, addA, subA, eFd, eFp, lV, lO, lNil, lD0, sPar2, sPar3, sAsg, e]
/-- what may stand as carets -/
structure Cs (n : Nat) (ms : List Int) : Prop where
  asc : ms.Pairwise (· < ·)
  bd : ∀ c ∈ ms, 0 ≤ c ∧ c ≤ n
  len : ms.length ≤ 900
theorem Cs.gaps {n : Nat} {ms : List Int} (h : Cs n ms) : gapsB (.tup (ms.map D.int)) = true := by
  have e : intsB (ms.map D.int) = ms := by
    unfold intsB
    rw [List.filterMap_map]
    exact List.filterMap_some
  show (true && ((ms.map D.int).all numB && ascI (intsB (ms.map D.int)))) = true
  rw [e, (ascI_iff ms).mpr h.asc, Bool.true_and, Bool.and_true, List.all_map, List.all_eq_true]
  intro c hc
  have := (h.bd c hc).1
  simpa [numB] using this
theorem last_i (ms : List Int) (h : ms ≠ []) : ∃ c ∈ ms, idxM (.tup (ms.map D.int)) (.int (-1)) = .ret (.int c) ∧ ms.getLastD 0 = c := by
  rcases List.eq_nil_or_concat ms with e | ⟨l, x, e⟩
  · exact absurd e h
  · subst e
    refine ⟨x, by simp, ?_, by rw [List.concat_eq_append]; exact List.getLastD_concat ..⟩
    have : atI ((l.concat x).map D.int) (-1) = some (.int x) := by
      unfold atI ixN
      rw [if_neg (by decide), if_pos (by simp; omega)]
      simp only [List.length_map, List.length_concat]
      have e2 : ((-1 : Int) + (l.length + 1 : Nat)).toNat = l.length := by omega
      rw [e2]
      simp
    show (match atI ((l.concat x).map D.int) (-1) with | some x => M.ret x | none => .bad) = _
    rw [this]
theorem neg1 : negM (.int 1) = .ret (.int (-1)) := rfl
theorem want_carets_ok {rs : List D} {ms : List Int} (hn : rs.length ≤ 60) (h : Cs rs.length ms) : M_want_carets [.tup rs, .tup (ms.map D.int)] = .ret .non := by
  have g : M_is_gaps [.tup (ms.map D.int)] = .ret (.bl true) := by
    rw [is_gaps_eq rfl (fun x hx => by obtain ⟨c, _, rfl⟩ := List.mem_map.mp hx; rfl) (by show (ms.map D.int).length ≤ 1000; rw [List.length_map]; have := h.len; omega), h.gaps]
  have e : M_are_carets [.tup rs, .tup (ms.map D.int)] = .ret (.bl true) := by
    unfold M_are_carets b_are_carets
    cases ms with
    | nil =>
      simp only [runB, startE, sSeq, sIf, sRet, sSet, sPar, sNil, sDrop, eBin, eUn, eC, eVar, eAnd, eOr, eNot, notD, eF, eCL, L1, L1N, nCL, aCons, aNil, eTup, nLst, eN, tV, tTru, asB, tru, tOrM, tAndM, tNotM, eIf, eSl, pSome, pNo, nUn, M.retb, List.map_cons, List.map_nil, List.length_cons, List.length_nil, List.replicate, List.cons_append, List.nil_append, List.getElem?_cons_zero, List.getElem?_cons_succ, List.set_cons_zero, List.set_cons_succ, M.bind_assoc, if_true, zl, Nat.reduceAdd, Nat.reduceLeDiff, iAny, itM, iR1, iR2, iEnumM, sOwn, sFrz, sFrzD, sSetL, sAug, addA, subA, eFd, eFp, lV, lO, lNil, lD0, sPar2, sPar3, sAsg, g, len_t]
      rfl
    | cons c r =>
      obtain ⟨x, hx, e1, _⟩ := last_i (c :: r) (by simp)
      have hx2 := (h.bd x hx).2
      have e0 : eqM (.int ((c :: r).map D.int).length) (.int 0) = .ret (.bl false) := eq_no (by simp; omega)
      have e3 : leM (.int x) (.int rs.length) = .ret (.bl true) := by rw [le_i, decide_eq_true hx2]
      simp only [List.map_cons] at g e0 e1 ⊢
      simp only [runB, startE, sSeq, sIf, sRet, sSet, sPar, sNil, sDrop, eBin, eUn, eC, eVar, eAnd, eOr, eNot, notD, eF, eCL, L1, L1N, nCL, aCons, aNil, eTup, nLst, eN, tV, tTru, asB, tru, tOrM, tAndM, tNotM, eIf, eSl, pSome, pNo, nUn, M.retb, List.map_cons, List.map_nil, List.length_cons, List.length_nil, List.replicate, List.cons_append, List.nil_append, List.getElem?_cons_zero, List.getElem?_cons_succ, List.set_cons_zero, List.set_cons_succ, M.bind_assoc, if_true, zl, Nat.reduceAdd, Nat.reduceLeDiff, iAny, itM, iR1, iR2, iEnumM, sOwn, sFrz, sFrzD, sSetL, sAug, addA, subA, eFd, eFp, lV, lO, lNil, lD0, sPar2, sPar3, sAsg, g, len_t, neg1, e1, e3]
      simp only [List.length_cons] at e0
      try simp only [runB, startE, sSeq, sIf, sRet, sSet, sPar, sNil, sDrop, eBin, eUn, eC, eVar, eAnd, eOr, eNot, notD, eF, eCL, L1, L1N, nCL, aCons, aNil, eTup, nLst, eN, tV, tTru, asB, tru, tOrM, tAndM, tNotM, eIf, eSl, pSome, pNo, nUn, M.retb, List.map_cons, List.map_nil, List.length_cons, List.length_nil, List.replicate, List.cons_append, List.nil_append, List.getElem?_cons_zero, List.getElem?_cons_succ, List.set_cons_zero, List.set_cons_succ, M.bind_assoc, if_true, zl, Nat.reduceAdd, Nat.reduceLeDiff, iAny, itM, iR1, iR2, iEnumM, sOwn, sFrz, sFrzD, sSetL, sAug, addA, subA, eFd, eFp, lV, lO, lNil, lD0, sPar2, sPar3, sAsg, e0]
  unfold M_want_carets b_want_carets
  simp only [runB, startE, sSeq, sIf, sRet, sSet, sPar, sNil, sDrop, eBin, eUn, eC, eVar, eAnd, eOr, eNot, notD, eF, eCL, L1, L1N, nCL, aCons, aNil, eTup, nLst, eN, tV, tTru, asB, tru, tOrM, tAndM, tNotM, eIf, eSl, pSome, pNo, nUn, M.retb, List.map_cons, List.map_nil, List.length_cons, List.length_nil, List.replicate, List.cons_append, List.nil_append, List.getElem?_cons_zero, List.getElem?_cons_succ, List.set_cons_zero, List.set_cons_succ, M.bind_assoc, if_true, zl, Nat.reduceAdd, Nat.reduceLeDiff, iAny, itM, iR1, iR2, iEnumM, sOwn, sFrz, sFrzD, sSetL, sAug, addA, subA, eFd, eFp, lV, lO, lNil, lD0, sPar2, sPar3, sAsg, e, want_ok]
theorem is_num (k : Int) (h : 0 ≤ k) : M_is_number [.int k] = .ret (.bl true) := by
  rw [is_number_eq rfl]; show M.ret (D.bl (decide (0 ≤ k))) = _; rw [decide_eq_true h]
theorem want_row_ok {rs : List D} {k : Int} (h0 : 0 ≤ k) (h1 : k < rs.length) : M_want_row [.tup rs, .int k] = .ret .non := by
  have e : M_is_row_of [.tup rs, .int k] = .ret (.bl true) := by
    unfold M_is_row_of b_is_row_of
    have e3 : ltM (.int k) (.int rs.length) = .ret (.bl true) := by rw [lt_i, decide_eq_true h1]
    simp only [runB, startE, sSeq, sIf, sRet, sSet, sPar, sNil, sDrop, eBin, eUn, eC, eVar, eAnd, eOr, eNot, notD, eF, eCL, L1, L1N, nCL, aCons, aNil, eTup, nLst, eN, tV, tTru, asB, tru, tOrM, tAndM, tNotM, eIf, eSl, pSome, pNo, nUn, M.retb, List.map_cons, List.map_nil, List.length_cons, List.length_nil, List.replicate, List.cons_append, List.nil_append, List.getElem?_cons_zero, List.getElem?_cons_succ, List.set_cons_zero, List.set_cons_succ, M.bind_assoc, if_true, zl, Nat.reduceAdd, Nat.reduceLeDiff, iAny, itM, iR1, iR2, iEnumM, sOwn, sFrz, sFrzD, sSetL, sAug, addA, subA, eFd, eFp, lV, lO, lNil, lD0, sPar2, sPar3, sAsg, is_num k h0, len_t, e3]
  unfold M_want_row b_want_row
  simp only [runB, startE, sSeq, sIf, sRet, sSet, sPar, sNil, sDrop, eBin, eUn, eC, eVar, eAnd, eOr, eNot, notD, eF, eCL, L1, L1N, nCL, aCons, aNil, eTup, nLst, eN, tV, tTru, asB, tru, tOrM, tAndM, tNotM, eIf, eSl, pSome, pNo, nUn, M.retb, List.map_cons, List.map_nil, List.length_cons, List.length_nil, List.replicate, List.cons_append, List.nil_append, List.getElem?_cons_zero, List.getElem?_cons_succ, List.set_cons_zero, List.set_cons_succ, M.bind_assoc, if_true, zl, Nat.reduceAdd, Nat.reduceLeDiff, iAny, itM, iR1, iR2, iEnumM, sOwn, sFrz, sFrzD, sSetL, sAug, addA, subA, eFd, eFp, lV, lO, lNil, lD0, sPar2, sPar3, sAsg, e, want_ok]
end G
namespace G
open PySem PySem.Spec PyProof.Rows L2 F
def tp (p : Int × Int) : D := .tup [.int p.1, .int p.2]
theorem zip_ints (xs ys : List Int) : zipD (xs.map D.int) (ys.map D.int) = (xs.zip ys).map tp := by
  unfold zipD
  rw [List.zip_map, List.map_map]
  rfl
theorem segments_eq (rs : List D) (ms : List Int) (hz : ms.length ≤ 900) : M_segments_in [.tup rs, .tup (ms.map D.int)] = .ret (.lst ((ms.zip (ms.drop 1 ++ [(rs.length : Int)])).map tp)) := by
  have e : (ms.map D.int).drop 1 ++ [D.int (rs.length : Int)] = (ms.drop 1 ++ [(rs.length : Int)]).map D.int := by simp
  unfold M_segments_in b_segments_in
  simp only [runB, startE, sSeq, sIf, sRet, sSet, sPar, sNil, sDrop, eBin, eUn, eC, eVar, eAnd, eOr, eNot, notD, eF, eCL, L1, L1N, nCL, aCons, aNil, eTup, nLst, eN, tV, tTru, asB, tru, tOrM, tAndM, tNotM, eIf, eSl, pSome, pNo, nUn, M.retb, List.map_cons, List.map_nil, List.length_cons, List.length_nil, List.replicate, List.cons_append, List.nil_append, List.getElem?_cons_zero, List.getElem?_cons_succ, List.set_cons_zero, List.set_cons_succ, M.bind_assoc, if_true, zl, Nat.reduceAdd, Nat.reduceLeDiff, iAny, itM, iR1, iR2, iEnumM, sOwn, sFrz, sFrzD, sSetL, sAug, addA, subA, eFd, eFp, lV, lO, lNil, lD0, sPar2, sPar3, sAsg, nLZ, aStar, seqD, slt, len_t, lzM]
  rw [e, if_pos (sz1000 (by rw [List.length_map, List.length_append, List.length_drop, List.length_singleton]; omega))]
  simp only [runB, startE, sSeq, sIf, sRet, sSet, sPar, sNil, sDrop, eBin, eUn, eC, eVar, eAnd, eOr, eNot, notD, eF, eCL, L1, L1N, nCL, aCons, aNil, eTup, nLst, eN, tV, tTru, asB, tru, tOrM, tAndM, tNotM, eIf, eSl, pSome, pNo, nUn, M.retb, List.map_cons, List.map_nil, List.length_cons, List.length_nil, List.replicate, List.cons_append, List.nil_append, List.getElem?_cons_zero, List.getElem?_cons_succ, List.set_cons_zero, List.set_cons_succ, M.bind_assoc, if_true, zl, Nat.reduceAdd, Nat.reduceLeDiff, iAny, itM, iR1, iR2, iEnumM, sOwn, sFrz, sFrzD, sSetL, sAug, addA, subA, eFd, eFp, lV, lO, lNil, lD0, sPar2, sPar3, sAsg]
  rw [zip_ints]
def inD (k : Int) : D → Bool
  | .tup [.int a, .int b] => inS k (a, b)
  | _ => false
theorem bounds_eq {rs : List D} {ms : List Int} {k : Int} (h : Cs rs.length ms) (h1 : k < rs.length) :
    M_bounds_around [.tup rs, .tup (ms.map D.int), .int k] = .ret (match seg ms rs.length k with | some p => tp p | none => .non) := by
  have hn : nComp [4, 5] (iAny (eF 2 M_segments_in (aCons (eVar 0) (aCons (eVar 1) aNil)))) (gTn 2 (gAll1 (gN 4) (gAll1 (gN 5) gAll0))) (tV (eChain leM ltM (eVar 4) (eVar 2) (eVar 5))) (eTup (aCons (eVar 4) (aCons (eVar 5) aNil)))
      [.v (.tup rs), .v (.tup (ms.map D.int)), .v (.int k), .no, .no, .no] = .ret ((((ms.zip (ms.drop 1 ++ [(rs.length : Int)])).map tp).filter (inD k)).map id) := by
    refine nComp_pure (inD k) id ?_ ?_ fun d hd => ?_
    · simp only [runB, startE, sSeq, sIf, sRet, sSet, sPar, sNil, sDrop, eBin, eUn, eC, eVar, eAnd, eOr, eNot, notD, eF, eCL, L1, L1N, nCL, aCons, aNil, eTup, nLst, eN, tV, tTru, asB, tru, tOrM, tAndM, tNotM, eIf, eSl, pSome, pNo, nUn, M.retb, List.map_cons, List.map_nil, List.length_cons, List.length_nil, List.replicate, List.cons_append, List.nil_append, List.getElem?_cons_zero, List.getElem?_cons_succ, List.set_cons_zero, List.set_cons_succ, M.bind_assoc, if_true, zl, Nat.reduceAdd, Nat.reduceLeDiff, iAny, itM, iR1, iR2, iEnumM, sOwn, sFrz, sFrzD, sSetL, sAug, addA, subA, eFd, eFp, lV, lO, lNil, lD0, sPar2, sPar3, sAsg, segments_eq rs ms h.len]
    · rw [List.length_map, List.length_zip]
      exact sz1000 (by have := h.len; omega)
    · obtain ⟨⟨a, b⟩, _, rfl⟩ := List.mem_map.mp hd
      refine ⟨_, rfl, ?_, fun _ => rfl⟩
      show (tV (eChain leM ltM (eVar 4) (eVar 2) (eVar 5))) [.v (.tup rs), .v (.tup (ms.map D.int)), .v (.int k), .no, .v (.int a), .v (.int b)] = .ret (decide (a ≤ k) && decide (k < b))
      unfold eChain
      simp only [runB, startE, sSeq, sIf, sRet, sSet, sPar, sNil, sDrop, eBin, eUn, eC, eVar, eAnd, eOr, eNot, notD, eF, eCL, L1, L1N, nCL, aCons, aNil, eTup, nLst, eN, tV, tTru, asB, tru, tOrM, tAndM, tNotM, eIf, eSl, pSome, pNo, nUn, M.retb, List.map_cons, List.map_nil, List.length_cons, List.length_nil, List.replicate, List.cons_append, List.nil_append, List.getElem?_cons_zero, List.getElem?_cons_succ, List.set_cons_zero, List.set_cons_succ, M.bind_assoc, if_true, zl, Nat.reduceAdd, Nat.reduceLeDiff, iAny, itM, iR1, iR2, iEnumM, sOwn, sFrz, sFrzD, sSetL, sAug, addA, subA, eFd, eFp, lV, lO, lNil, lD0, sPar2, sPar3, sAsg, le_i, lt_i]
      cases decide (a ≤ k) with
      | true => try simp only [runB, startE, sSeq, sIf, sRet, sSet, sPar, sNil, sDrop, eBin, eUn, eC, eVar, eAnd, eOr, eNot, notD, eF, eCL, L1, L1N, nCL, aCons, aNil, eTup, nLst, eN, tV, tTru, asB, tru, tOrM, tAndM, tNotM, eIf, eSl, pSome, pNo, nUn, M.retb, List.map_cons, List.map_nil, List.length_cons, List.length_nil, List.replicate, List.cons_append, List.nil_append, List.getElem?_cons_zero, List.getElem?_cons_succ, List.set_cons_zero, List.set_cons_succ, M.bind_assoc, if_true, zl, Nat.reduceAdd, Nat.reduceLeDiff, iAny, itM, iR1, iR2, iEnumM, sOwn, sFrz, sFrzD, sSetL, sAug, addA, subA, eFd, eFp, lV, lO, lNil, lD0, sPar2, sPar3, sAsg]; rfl
      | false => try simp only [runB, startE, sSeq, sIf, sRet, sSet, sPar, sNil, sDrop, eBin, eUn, eC, eVar, eAnd, eOr, eNot, notD, eF, eCL, L1, L1N, nCL, aCons, aNil, eTup, nLst, eN, tV, tTru, asB, tru, tOrM, tAndM, tNotM, eIf, eSl, pSome, pNo, nUn, M.retb, List.map_cons, List.map_nil, List.length_cons, List.length_nil, List.replicate, List.cons_append, List.nil_append, List.getElem?_cons_zero, List.getElem?_cons_succ, List.set_cons_zero, List.set_cons_succ, M.bind_assoc, if_true, zl, Nat.reduceAdd, Nat.reduceLeDiff, iAny, itM, iR1, iR2, iEnumM, sOwn, sFrz, sFrzD, sSetL, sAug, addA, subA, eFd, eFp, lV, lO, lNil, lD0, sPar2, sPar3, sAsg]; rfl
  have e2 : (((ms.zip (ms.drop 1 ++ [(rs.length : Int)])).map tp).filter (inD k)).map id = (seg ms rs.length k).toList.map tp := by
    rw [List.map_id, List.filter_map, ← seg_zip ms rs.length k h.asc h1]
    rfl
  rw [e2] at hn
  unfold M_bounds_around b_bounds_around
  simp only [runB, startE, sSeq, sIf, sRet, sSet, sPar, sNil, sDrop, eBin, eUn, eC, eVar, eAnd, eOr, eNot, notD, eF, eCL, L1, L1N, nCL, aCons, aNil, eTup, nLst, eN, tV, tTru, asB, tru, tOrM, tAndM, tNotM, eIf, eSl, pSome, pNo, nUn, M.retb, List.map_cons, List.map_nil, List.length_cons, List.length_nil, List.replicate, List.cons_append, List.nil_append, List.getElem?_cons_zero, List.getElem?_cons_succ, List.set_cons_zero, List.set_cons_succ, M.bind_assoc, if_true, zl, Nat.reduceAdd, Nat.reduceLeDiff, iAny, itM, iR1, iR2, iEnumM, sOwn, sFrz, sFrzD, sSetL, sAug, addA, subA, eFd, eFp, lV, lO, lNil, lD0, sPar2, sPar3, sAsg, hn, len_l, gt_i]
  cases seg ms rs.length k with
  | none => try simp only [runB, startE, sSeq, sIf, sRet, sSet, sPar, sNil, sDrop, eBin, eUn, eC, eVar, eAnd, eOr, eNot, notD, eF, eCL, L1, L1N, nCL, aCons, aNil, eTup, nLst, eN, tV, tTru, asB, tru, tOrM, tAndM, tNotM, eIf, eSl, pSome, pNo, nUn, M.retb, List.map_cons, List.map_nil, List.length_cons, List.length_nil, List.replicate, List.cons_append, List.nil_append, List.getElem?_cons_zero, List.getElem?_cons_succ, List.set_cons_zero, List.set_cons_succ, M.bind_assoc, if_true, zl, Nat.reduceAdd, Nat.reduceLeDiff, iAny, itM, iR1, iR2, iEnumM, sOwn, sFrz, sFrzD, sSetL, sAug, addA, subA, eFd, eFp, lV, lO, lNil, lD0, sPar2, sPar3, sAsg]; rfl
  | some p => try simp only [runB, startE, sSeq, sIf, sRet, sSet, sPar, sNil, sDrop, eBin, eUn, eC, eVar, eAnd, eOr, eNot, notD, eF, eCL, L1, L1N, nCL, aCons, aNil, eTup, nLst, eN, tV, tTru, asB, tru, tOrM, tAndM, tNotM, eIf, eSl, pSome, pNo, nUn, M.retb, List.map_cons, List.map_nil, List.length_cons, List.length_nil, List.replicate, List.cons_append, List.nil_append, List.getElem?_cons_zero, List.getElem?_cons_succ, List.set_cons_zero, List.set_cons_succ, M.bind_assoc, if_true, zl, Nat.reduceAdd, Nat.reduceLeDiff, iAny, itM, iR1, iR2, iEnumM, sOwn, sFrz, sFrzD, sSetL, sAug, addA, subA, eFd, eFp, lV, lO, lNil, lD0, sPar2, sPar3, sAsg]; rfl
/-! ## layers -/
def natD (n : Nat) : D := .int (n : Int)
def layB : SM := (sSeq (sApp 3 (eVar 5)) (sIf (tV (eBin eqM (eBin idxM (eVar 6) (eC (.int 0))) (eC (.str "open")))) (sAug 4 addA (eC (.int 1))) (sIf (tAndM (tV (eBin eqM (eBin idxM (eVar 6) (eC (.int 0))) (eC (.str "end")))) (tV (eBin gtM (eVar 4) (eC (.int 0))))) (sAug 4 subA (eC (.int 1))) (sIf (tV (eBin eqM (eBin idxM (eVar 6) (eC (.int 0))) (eC (.str "end")))) (sAug 5 addA (eC (.int 1))) sNil))))
theorem layB_eq {T a b : Sl} {found : List D} {o l : Nat} {r : D} (h : Row r) (hf : found.length < 1000) :
    layB [T, a, b, .own found, .v (natD o), .v (natD l), .v r] = .ret (.nx [T, a, b, .own (found ++ [natD l]), .v (natD (if opB r = true then o + 1 else if (enB r && decide (0 < o)) = true then o - 1 else o)), .v (natD (if opB r = true then l else if (enB r && decide (0 < o)) = true then l else if enB r = true then l + 1 else l)), .v r]) := by
  have hz : (found.length < sizeLine) = True := eq_true (by rw [sizeLine_eq]; omega)
  unfold layB natD
  simp only [runB, startE, sSeq, sIf, sRet, sSet, sPar, sNil, sDrop, eBin, eUn, eC, eVar, eAnd, eOr, eNot, notD, eF, eCL, L1, L1N, nCL, aCons, aNil, eTup, nLst, eN, tV, tTru, asB, tru, tOrM, tAndM, tNotM, eIf, eSl, pSome, pNo, nUn, M.retb, List.map_cons, List.map_nil, List.length_cons, List.length_nil, List.replicate, List.cons_append, List.nil_append, List.getElem?_cons_zero, List.getElem?_cons_succ, List.set_cons_zero, List.set_cons_succ, M.bind_assoc, if_true, zl, Nat.reduceAdd, Nat.reduceLeDiff, iAny, itM, iR1, iR2, iEnumM, sOwn, sFrz, sFrzD, sSetL, sAug, addA, subA, eFd, eFp, lV, lO, lNil, lD0, sPar2, sPar3, sAsg, sApp, hz, h.ix, h.op, h.en]
  cases ho : opB r with
  | true => try simp only [runB, startE, sSeq, sIf, sRet, sSet, sPar, sNil, sDrop, eBin, eUn, eC, eVar, eAnd, eOr, eNot, notD, eF, eCL, L1, L1N, nCL, aCons, aNil, eTup, nLst, eN, tV, tTru, asB, tru, tOrM, tAndM, tNotM, eIf, eSl, pSome, pNo, nUn, M.retb, List.map_cons, List.map_nil, List.length_cons, List.length_nil, List.replicate, List.cons_append, List.nil_append, List.getElem?_cons_zero, List.getElem?_cons_succ, List.set_cons_zero, List.set_cons_succ, M.bind_assoc, if_true, zl, Nat.reduceAdd, Nat.reduceLeDiff, iAny, itM, iR1, iR2, iEnumM, sOwn, sFrz, sFrzD, sSetL, sAug, addA, subA, eFd, eFp, lV, lO, lNil, lD0, sPar2, sPar3, sAsg, addA]; rfl
  | false =>
    try simp only [runB, startE, sSeq, sIf, sRet, sSet, sPar, sNil, sDrop, eBin, eUn, eC, eVar, eAnd, eOr, eNot, notD, eF, eCL, L1, L1N, nCL, aCons, aNil, eTup, nLst, eN, tV, tTru, asB, tru, tOrM, tAndM, tNotM, eIf, eSl, pSome, pNo, nUn, M.retb, List.map_cons, List.map_nil, List.length_cons, List.length_nil, List.replicate, List.cons_append, List.nil_append, List.getElem?_cons_zero, List.getElem?_cons_succ, List.set_cons_zero, List.set_cons_succ, M.bind_assoc, if_true, zl, Nat.reduceAdd, Nat.reduceLeDiff, iAny, itM, iR1, iR2, iEnumM, sOwn, sFrz, sFrzD, sSetL, sAug, addA, subA, eFd, eFp, lV, lO, lNil, lD0, sPar2, sPar3, sAsg]
    cases he : enB r with
    | false => try simp only [runB, startE, sSeq, sIf, sRet, sSet, sPar, sNil, sDrop, eBin, eUn, eC, eVar, eAnd, eOr, eNot, notD, eF, eCL, L1, L1N, nCL, aCons, aNil, eTup, nLst, eN, tV, tTru, asB, tru, tOrM, tAndM, tNotM, eIf, eSl, pSome, pNo, nUn, M.retb, List.map_cons, List.map_nil, List.length_cons, List.length_nil, List.replicate, List.cons_append, List.nil_append, List.getElem?_cons_zero, List.getElem?_cons_succ, List.set_cons_zero, List.set_cons_succ, M.bind_assoc, if_true, zl, Nat.reduceAdd, Nat.reduceLeDiff, iAny, itM, iR1, iR2, iEnumM, sOwn, sFrz, sFrzD, sSetL, sAug, addA, subA, eFd, eFp, lV, lO, lNil, lD0, sPar2, sPar3, sAsg]; rfl
    | true =>
      try simp only [runB, startE, sSeq, sIf, sRet, sSet, sPar, sNil, sDrop, eBin, eUn, eC, eVar, eAnd, eOr, eNot, notD, eF, eCL, L1, L1N, nCL, aCons, aNil, eTup, nLst, eN, tV, tTru, asB, tru, tOrM, tAndM, tNotM, eIf, eSl, pSome, pNo, nUn, M.retb, List.map_cons, List.map_nil, List.length_cons, List.length_nil, List.replicate, List.cons_append, List.nil_append, List.getElem?_cons_zero, List.getElem?_cons_succ, List.set_cons_zero, List.set_cons_succ, M.bind_assoc, if_true, zl, Nat.reduceAdd, Nat.reduceLeDiff, iAny, itM, iR1, iR2, iEnumM, sOwn, sFrz, sFrzD, sSetL, sAug, addA, subA, eFd, eFp, lV, lO, lNil, lD0, sPar2, sPar3, sAsg, gt_i]
      by_cases h0 : 0 < o
      · rw [decide_eq_true (show (0 : Int) < (o : Int) by omega), decide_eq_true h0]
        try simp only [runB, startE, sSeq, sIf, sRet, sSet, sPar, sNil, sDrop, eBin, eUn, eC, eVar, eAnd, eOr, eNot, notD, eF, eCL, L1, L1N, nCL, aCons, aNil, eTup, nLst, eN, tV, tTru, asB, tru, tOrM, tAndM, tNotM, eIf, eSl, pSome, pNo, nUn, M.retb, List.map_cons, List.map_nil, List.length_cons, List.length_nil, List.replicate, List.cons_append, List.nil_append, List.getElem?_cons_zero, List.getElem?_cons_succ, List.set_cons_zero, List.set_cons_succ, M.bind_assoc, if_true, zl, Nat.reduceAdd, Nat.reduceLeDiff, iAny, itM, iR1, iR2, iEnumM, sOwn, sFrz, sFrzD, sSetL, sAug, addA, subA, eFd, eFp, lV, lO, lNil, lD0, sPar2, sPar3, sAsg, subA]
        have : ((o : Int) - 1) = ((o - 1 : Nat) : Int) := by omega
        rw [this]
        rfl
      · rw [decide_eq_false (show ¬ (0 : Int) < (o : Int) by omega), decide_eq_false h0]
        try simp only [runB, startE, sSeq, sIf, sRet, sSet, sPar, sNil, sDrop, eBin, eUn, eC, eVar, eAnd, eOr, eNot, notD, eF, eCL, L1, L1N, nCL, aCons, aNil, eTup, nLst, eN, tV, tTru, asB, tru, tOrM, tAndM, tNotM, eIf, eSl, pSome, pNo, nUn, M.retb, List.map_cons, List.map_nil, List.length_cons, List.length_nil, List.replicate, List.cons_append, List.nil_append, List.getElem?_cons_zero, List.getElem?_cons_succ, List.set_cons_zero, List.set_cons_succ, M.bind_assoc, if_true, zl, Nat.reduceAdd, Nat.reduceLeDiff, iAny, itM, iR1, iR2, iEnumM, sOwn, sFrz, sFrzD, sSetL, sAug, addA, subA, eFd, eFp, lV, lO, lNil, lD0, sPar2, sPar3, sAsg, addA]
        rfl
theorem layers_loop (T a b : Sl) : ∀ (rs found : List D) (o l : Nat) (z : Sl), (∀ r ∈ rs, Row r) → found.length + rs.length ≤ 900 →
    ∃ x y w, forM (gN 6) layB rs [T, a, b, .own found, .v (natD o), .v (natD l), z] = .ret (.nx [T, a, b, .own (found ++ (lay rs o l).map natD), x, y, w])
  | [], found, o, l, z, _, _ => ⟨_, _, _, by rw [show lay [] o l = [] from rfl, List.map_nil, List.append_nil]; rfl⟩
  | r :: rs, found, o, l, z, h, hl => by
    simp only [List.length_cons] at hl
    have e := layB_eq (T := T) (a := a) (b := b) (found := found) (o := o) (l := l) (h r (by simp)) (by omega)
    obtain ⟨x, y, w, ih⟩ := layers_loop T a b rs (found ++ [natD l]) (if opB r = true then o + 1 else if (enB r && decide (0 < o)) = true then o - 1 else o) (if opB r = true then l else if (enB r && decide (0 < o)) = true then l else if enB r = true then l + 1 else l) (.v r) (fun x hx => h x (List.mem_cons_of_mem _ hx)) (by simp; omega)
    refine ⟨x, y, w, ?_⟩
    show (layB [T, a, b, .own found, .v (natD o), .v (natD l), .v r] >>= _) = _
    rw [e]
    refine ih.trans ?_
    have : lay (r :: rs) o l = l :: lay rs (if opB r = true then o + 1 else if (enB r && decide (0 < o)) = true then o - 1 else o) (if opB r = true then l else if (enB r && decide (0 < o)) = true then l else if enB r = true then l + 1 else l) := by
      show l :: _ = _
      congr 1
      split
      · rfl
      · split
        · rfl
        · split <;> rfl
    rw [this]
    simp
theorem sl_ab {rs : List D} {a b : Nat} (h : a ≤ b) (hb : b ≤ rs.length) : sliceM (some (a : Int)) (some (b : Int)) (.tup rs) = .ret (.tup ((rs.drop a).take (b - a))) := by
  show M.ret (D.tup (cutL rs (some (a : Int)) (some (b : Int)))) = _
  unfold cutL
  rw [HT.sIx_nat, HT.sIx_nat, Nat.min_eq_left (show a ≤ rs.length by omega), Nat.min_eq_left hb]
theorem layers_eq {rs : List D} {a b : Nat} (g : Pg rs) (h : a ≤ b) (hb : b ≤ rs.length) : M_layers_in [.tup rs, .int a, .int b] = .ret (.lst ((lay ((rs.drop a).take (b - a)) 0 0).map natD)) := by
  have hl : ((rs.drop a).take (b - a)).length ≤ 60 := by have := g.len; rw [List.length_take, List.length_drop]; omega
  obtain ⟨x, y, w, e⟩ := layers_loop (.v (.tup rs)) (.v (.int a)) (.v (.int b)) ((rs.drop a).take (b - a)) [] 0 0 .no (fun r hr => g.row r (List.mem_of_mem_drop (List.mem_of_mem_take hr))) (by simp only [List.length_nil]; omega)
  have hs := sl_ab h hb
  unfold M_layers_in
  have hb : b_layers_in = (sSeq (sPar3 3 4 5 (lO (nLst aNil) (lV (eC (.int 0)) (lV (eC (.int 0)) lNil)))) (sSeq (sFor (iAny (eSl (eVar 0) (pSome (eVar 1)) (pSome (eVar 2)))) (gN 6) layB) (sFrz 3 (sRet (eVar 3))))) := rfl
  rw [hb]
  have e : forM (gN 6) layB ((rs.drop a).take (b - a)) [.v (.tup rs), .v (.int a), .v (.int b), .own [], .v (.int 0), .v (.int 0), .no] = _ := e
  simp only [runB, startE, sSeq, sIf, sRet, sSet, sPar, sNil, sDrop, eBin, eUn, eC, eVar, eAnd, eOr, eNot, notD, eF, eCL, L1, L1N, nCL, aCons, aNil, eTup, nLst, eN, tV, tTru, asB, tru, tOrM, tAndM, tNotM, eIf, eSl, pSome, pNo, nUn, M.retb, List.map_cons, List.map_nil, List.length_cons, List.length_nil, List.replicate, List.cons_append, List.nil_append, List.getElem?_cons_zero, List.getElem?_cons_succ, List.set_cons_zero, List.set_cons_succ, M.bind_assoc, if_true, zl, Nat.reduceAdd, Nat.reduceLeDiff, iAny, itM, iR1, iR2, iEnumM, sOwn, sFrz, sFrzD, sSetL, sAug, addA, subA, eFd, eFp, lV, lO, lNil, lD0, sPar2, sPar3, sAsg, sFor, hs]
  rw [e]
  simp only [runB, startE, sSeq, sIf, sRet, sSet, sPar, sNil, sDrop, eBin, eUn, eC, eVar, eAnd, eOr, eNot, notD, eF, eCL, L1, L1N, nCL, aCons, aNil, eTup, nLst, eN, tV, tTru, asB, tru, tOrM, tAndM, tNotM, eIf, eSl, pSome, pNo, nUn, M.retb, List.map_cons, List.map_nil, List.length_cons, List.length_nil, List.replicate, List.cons_append, List.nil_append, List.getElem?_cons_zero, List.getElem?_cons_succ, List.set_cons_zero, List.set_cons_succ, M.bind_assoc, if_true, zl, Nat.reduceAdd, Nat.reduceLeDiff, iAny, itM, iR1, iR2, iEnumM, sOwn, sFrz, sFrzD, sSetL, sAug, addA, subA, eFd, eFp, lV, lO, lNil, lD0, sPar2, sPar3, sAsg]
end G
namespace G
open PySem PySem.Spec PyProof.Rows L2 F
theorem at_get {xs : List D} {i : Nat} {x : D} (h : xs[i]? = some x) : atI xs (i : Int) = some x := by
  unfold atI ixN
  have hl := (List.getElem?_eq_some_iff.mp h).1
  rw [if_pos (by omega), if_pos (by omega)]
  simpa using h
theorem ix_l {xs : List D} {i : Nat} {x : D} (h : xs[i]? = some x) : idxM (.lst xs) (.int (i : Int)) = .ret x := by
  show (match atI xs i with | some x => M.ret x | none => .bad) = _
  rw [at_get h]
theorem ix_t {xs : List D} {i : Nat} {x : D} (h : xs[i]? = some x) : idxM (.tup xs) (.int (i : Int)) = .ret x := by
  show (match atI xs i with | some x => M.ret x | none => .bad) = _
  rw [at_get h]
theorem lay_range {rs : List D} {a m : Nat} (h : a + m ≤ rs.length) : lay ((rs.drop a).take m) 0 0 = (List.range m).map (ends rs a) := by
  apply List.ext_getElem?
  intro i
  by_cases hi : i < m
  · rw [lay_ends rs a m i h hi, List.getElem?_map, List.getElem?_range hi]
    rfl
  · rw [List.getElem?_eq_none (by rw [lay_len, List.length_take]; omega), List.getElem?_eq_none (by rw [List.length_map, List.length_range]; omega)]
theorem enum_range (m : Nat) (e : Nat → D) : enumD ((List.range m).map e) = (List.range m).map fun i => .tup [.int (i : Int), e i] := by
  unfold enumD
  apply List.ext_getElem?
  intro i
  rw [List.getElem?_mapIdx, List.getElem?_map, List.getElem?_map]
  by_cases hi : i < m
  · rw [List.getElem?_range hi]
    rfl
  · rw [List.getElem?_eq_none (by rw [List.length_range]; omega)]
    rfl
/-- the segment as two whole numbers -/
def sgN (ms : List Int) (n k : Nat) : Option (Nat × Nat) := (seg ms n k).map fun p => (p.1.toNat, p.2.toNat)
theorem sgN_some {ms : List Int} {n k a b : Nat} (h : Cs n ms) (hk : k < n) (e : sgN ms n k = some (a, b)) : seg ms n k = some ((a : Int), (b : Int)) ∧ a ≤ k ∧ k < b ∧ b ≤ n := by
  unfold sgN at e
  cases q : seg ms n k with
  | none => rw [q] at e; cases e
  | some p =>
    obtain ⟨x, y⟩ := p
    rw [q] at e
    have e := Option.some.inj e
    obtain ⟨h1, h2, h3, h4⟩ := seg_some q h.asc h.bd (by omega)
    have e1 : x.toNat = a := congrArg Prod.fst e
    have e2 : y.toNat = b := congrArg Prod.snd e
    have ex : x = (a : Int) := by omega
    have ey : y = (b : Int) := by omega
    subst ex ey
    exact ⟨rfl, by omega, by omega, by omega⟩
theorem sgN_none {ms : List Int} {n k : Nat} (e : sgN ms n k = none) : seg ms n k = none := by
  unfold sgN at e
  cases q : seg ms n k with
  | none => rfl
  | some p => rw [q] at e; cases e
def segD (ms : List Int) (n k : Nat) : D := match sgN ms n k with
  | none => .non
  | some (a, b) => .tup [.int a, .int ((b : Int) - 1)]
def layD (rs : List D) (ms : List Int) (k : Nat) : D := match sgN ms rs.length k with
  | none => .non
  | some (a, _) => natD (ends rs a (k - a))
def rwsD (rs : List D) (ms : List Int) (k : Nat) : D := match sgN ms rs.length k with
  | none => .tup []
  | some (a, b) => .tup (((List.range (b - a)).filter fun i => decide (ends rs a i = ends rs a (k - a))).map fun (i : Nat) => D.int ((a : Int) + (i : Int)))
variable {rs : List D} {ms : List Int} {k : Nat}
theorem bounds_N (h : Cs rs.length ms) (h1 : k < rs.length) : M_bounds_around [.tup rs, .tup (ms.map D.int), .int k] = .ret (match sgN ms rs.length k with | some (a, b) => .tup [.int a, .int b] | none => .non) := by
  rw [bounds_eq h (by omega)]
  cases q : sgN ms rs.length k with
  | none => rw [sgN_none q]
  | some p =>
    obtain ⟨a, b⟩ := p
    rw [(sgN_some h h1 q).1]
    rfl
theorem isn_n : isnM .non .non = .ret (.bl true) := rfl
theorem isn_t (xs : List D) : isnM (.tup xs) .non = .ret (.bl false) := rfl
theorem segment_of_eq (g : Pg rs) (h : Cs rs.length ms) (h1 : k < rs.length) : M_segment_of [.tup rs, .tup (ms.map D.int), .int k] = .ret (segD ms rs.length k) := by
  have e1 := want_text_ok g
  have e2 := want_carets_ok g.len h
  have e3 := want_row_ok (rs := rs) (k := (k : Int)) (by omega) (by omega)
  have e4 := bounds_N (k := k) h h1
  unfold M_segment_of b_segment_of segD
  simp only [runB, startE, sSeq, sIf, sRet, sSet, sPar, sNil, sDrop, eBin, eUn, eC, eVar, eAnd, eOr, eNot, notD, eF, eCL, L1, L1N, nCL, aCons, aNil, eTup, nLst, eN, tV, tTru, asB, tru, tOrM, tAndM, tNotM, eIf, eSl, pSome, pNo, nUn, M.retb, List.map_cons, List.map_nil, List.length_cons, List.length_nil, List.replicate, List.cons_append, List.nil_append, List.getElem?_cons_zero, List.getElem?_cons_succ, List.set_cons_zero, List.set_cons_succ, M.bind_assoc, if_true, zl, Nat.reduceAdd, Nat.reduceLeDiff, iAny, itM, iR1, iR2, iEnumM, sOwn, sFrz, sFrzD, sSetL, sAug, addA, subA, eFd, eFp, lV, lO, lNil, lD0, sPar2, sPar3, sAsg, e1, e2, e3, e4]
  cases q : sgN ms rs.length k with
  | none => try simp only [runB, startE, sSeq, sIf, sRet, sSet, sPar, sNil, sDrop, eBin, eUn, eC, eVar, eAnd, eOr, eNot, notD, eF, eCL, L1, L1N, nCL, aCons, aNil, eTup, nLst, eN, tV, tTru, asB, tru, tOrM, tAndM, tNotM, eIf, eSl, pSome, pNo, nUn, M.retb, List.map_cons, List.map_nil, List.length_cons, List.length_nil, List.replicate, List.cons_append, List.nil_append, List.getElem?_cons_zero, List.getElem?_cons_succ, List.set_cons_zero, List.set_cons_succ, M.bind_assoc, if_true, zl, Nat.reduceAdd, Nat.reduceLeDiff, iAny, itM, iR1, iR2, iEnumM, sOwn, sFrz, sFrzD, sSetL, sAug, addA, subA, eFd, eFp, lV, lO, lNil, lD0, sPar2, sPar3, sAsg, isn_n]
  | some p =>
    obtain ⟨a, b⟩ := p
    try simp only [runB, startE, sSeq, sIf, sRet, sSet, sPar, sNil, sDrop, eBin, eUn, eC, eVar, eAnd, eOr, eNot, notD, eF, eCL, L1, L1N, nCL, aCons, aNil, eTup, nLst, eN, tV, tTru, asB, tru, tOrM, tAndM, tNotM, eIf, eSl, pSome, pNo, nUn, M.retb, List.map_cons, List.map_nil, List.length_cons, List.length_nil, List.replicate, List.cons_append, List.nil_append, List.getElem?_cons_zero, List.getElem?_cons_succ, List.set_cons_zero, List.set_cons_succ, M.bind_assoc, if_true, zl, Nat.reduceAdd, Nat.reduceLeDiff, iAny, itM, iR1, iR2, iEnumM, sOwn, sFrz, sFrzD, sSetL, sAug, addA, subA, eFd, eFp, lV, lO, lNil, lD0, sPar2, sPar3, sAsg, isn_t, ix0, ix1, sub_i]
theorem layer_of_eq (g : Pg rs) (h : Cs rs.length ms) (h1 : k < rs.length) : M_layer_of [.tup rs, .tup (ms.map D.int), .int k] = .ret (layD rs ms k) := by
  have e1 := want_text_ok g
  have e2 := want_carets_ok g.len h
  have e3 := want_row_ok (rs := rs) (k := (k : Int)) (by omega) (by omega)
  have e4 := bounds_N (k := k) h h1
  unfold M_layer_of b_layer_of layD
  cases q : sgN ms rs.length k with
  | none =>
    rw [q] at e4
    simp only [runB, startE, sSeq, sIf, sRet, sSet, sPar, sNil, sDrop, eBin, eUn, eC, eVar, eAnd, eOr, eNot, notD, eF, eCL, L1, L1N, nCL, aCons, aNil, eTup, nLst, eN, tV, tTru, asB, tru, tOrM, tAndM, tNotM, eIf, eSl, pSome, pNo, nUn, M.retb, List.map_cons, List.map_nil, List.length_cons, List.length_nil, List.replicate, List.cons_append, List.nil_append, List.getElem?_cons_zero, List.getElem?_cons_succ, List.set_cons_zero, List.set_cons_succ, M.bind_assoc, if_true, zl, Nat.reduceAdd, Nat.reduceLeDiff, iAny, itM, iR1, iR2, iEnumM, sOwn, sFrz, sFrzD, sSetL, sAug, addA, subA, eFd, eFp, lV, lO, lNil, lD0, sPar2, sPar3, sAsg, e1, e2, e3, e4, isn_n]
  | some p =>
    obtain ⟨a, b⟩ := p
    obtain ⟨_, h2, h3, h4⟩ := sgN_some h h1 q
    have e5 := layers_eq g (show a ≤ b by omega) h4
    rw [lay_range (rs := rs) (a := a) (m := b - a) (by omega)] at e5
    have e6 : subM (.int k) (.int a) = .ret (.int ((k - a : Nat) : Int)) := by rw [sub_i, show ((k : Int) - (a : Int)) = ((k - a : Nat) : Int) by omega]
    have e7 : idxM (.lst (((List.range (b - a)).map (ends rs a)).map natD)) (.int ((k - a : Nat) : Int)) = .ret (natD (ends rs a (k - a))) := ix_l (by
      rw [List.getElem?_map, List.getElem?_map, List.getElem?_range (by omega)]; rfl)
    rw [q] at e4
    simp only [runB, startE, sSeq, sIf, sRet, sSet, sPar, sNil, sDrop, eBin, eUn, eC, eVar, eAnd, eOr, eNot, notD, eF, eCL, L1, L1N, nCL, aCons, aNil, eTup, nLst, eN, tV, tTru, asB, tru, tOrM, tAndM, tNotM, eIf, eSl, pSome, pNo, nUn, M.retb, List.map_cons, List.map_nil, List.length_cons, List.length_nil, List.replicate, List.cons_append, List.nil_append, List.getElem?_cons_zero, List.getElem?_cons_succ, List.set_cons_zero, List.set_cons_succ, M.bind_assoc, if_true, zl, Nat.reduceAdd, Nat.reduceLeDiff, iAny, itM, iR1, iR2, iEnumM, sOwn, sFrz, sFrzD, sSetL, sAug, addA, subA, eFd, eFp, lV, lO, lNil, lD0, sPar2, sPar3, sAsg, e1, e2, e3, e4, isn_t, ix0, ix1, e5, e6]
    rw [e7]
    exact M.ret_bind _ _
def enI (rs : List D) (a : Nat) (i : Nat) : D := .tup [.int (i : Int), natD (ends rs a i)]
def enP (t : Nat) : D → Bool
  | .tup [_, .int l] => l == (t : Int)
  | _ => false
theorem enP_n (t v : Nat) (j : Int) : enP t (.tup [.int j, natD v]) = decide (v = t) := by
  have e : enP t (.tup [.int j, natD v]) = ((v : Int) == (t : Int)) := rfl
  rw [e, Bool.eq_iff_iff, beq_iff_eq, decide_eq_true_eq]
  omega
def enF (a : Nat) : D → D
  | .tup [.int i, _] => .int ((a : Int) + i)
  | d => d
theorem rows_of_layer_eq (g : Pg rs) (h : Cs rs.length ms) (h1 : k < rs.length) : M_rows_of_layer [.tup rs, .tup (ms.map D.int), .int k] = .ret (rwsD rs ms k) := by
  have e1 := want_text_ok g
  have e2 := want_carets_ok g.len h
  have e3 := want_row_ok (rs := rs) (k := (k : Int)) (by omega) (by omega)
  have e4 := bounds_N (k := k) h h1
  unfold M_rows_of_layer b_rows_of_layer rwsD
  cases q : sgN ms rs.length k with
  | none =>
    rw [q] at e4
    simp only [runB, startE, sSeq, sIf, sRet, sSet, sPar, sNil, sDrop, eBin, eUn, eC, eVar, eAnd, eOr, eNot, notD, eF, eCL, L1, L1N, nCL, aCons, aNil, eTup, nLst, eN, tV, tTru, asB, tru, tOrM, tAndM, tNotM, eIf, eSl, pSome, pNo, nUn, M.retb, List.map_cons, List.map_nil, List.length_cons, List.length_nil, List.replicate, List.cons_append, List.nil_append, List.getElem?_cons_zero, List.getElem?_cons_succ, List.set_cons_zero, List.set_cons_succ, M.bind_assoc, if_true, zl, Nat.reduceAdd, Nat.reduceLeDiff, iAny, itM, iR1, iR2, iEnumM, sOwn, sFrz, sFrzD, sSetL, sAug, addA, subA, eFd, eFp, lV, lO, lNil, lD0, sPar2, sPar3, sAsg, e1, e2, e3, e4, isn_n]
  | some p =>
    obtain ⟨a, b⟩ := p
    obtain ⟨_, h2, h3, h4⟩ := sgN_some h h1 q
    have e5 := layers_eq g (show a ≤ b by omega) h4
    rw [lay_range (rs := rs) (a := a) (m := b - a) (by omega), List.map_map] at e5
    have e6 : subM (.int k) (.int a) = .ret (.int ((k - a : Nat) : Int)) := by rw [sub_i, show ((k : Int) - (a : Int)) = ((k - a : Nat) : Int) by omega]
    have e7 : idxM (.lst ((List.range (b - a)).map (natD ∘ ends rs a))) (.int ((k - a : Nat) : Int)) = .ret (natD (ends rs a (k - a))) := ix_l (by
      rw [List.getElem?_map, List.getElem?_range (by omega)]; rfl)
    have hn : nComp [5, 6] (iEnumM (aCons (eVar 4) aNil)) (gTn 2 (gAll1 (gN 5) (gAll1 (gN 6) gAll0))) (tV (eBin eqM (eVar 6) (eBin idxM (eVar 4) (eBin subM (eVar 2) (eBin idxM (eVar 3) (eC (.int 0))))))) (eBin addM (eBin idxM (eVar 3) (eC (.int 0))) (eVar 5))
        [.v (.tup rs), .v (.tup (ms.map D.int)), .v (.int k), .v (.tup [.int a, .int b]), .v (.lst ((List.range (b - a)).map (natD ∘ ends rs a))), .no, .no]
        = .ret ((((List.range (b - a)).map (enI rs a)).filter (enP (ends rs a (k - a)))).map (enF a)) := by
      refine nComp_pure _ _ ?_ ?_ fun d hd => ?_
      · show enumM [.lst ((List.range (b - a)).map (natD ∘ ends rs a))] = _
        show M.ret (enumD _) = _
        rw [enum_range]
        rfl
      · rw [List.length_map, List.length_range]
        exact sz1000 (by have := g.len; omega)
      · obtain ⟨i, _, rfl⟩ := List.mem_map.mp hd
        refine ⟨_, rfl, ?_, fun _ => ?_⟩
        · show (tV (eBin eqM (eVar 6) (eBin idxM (eVar 4) (eBin subM (eVar 2) (eBin idxM (eVar 3) (eC (.int 0))))))) [.v (.tup rs), .v (.tup (ms.map D.int)), .v (.int k), .v (.tup [.int a, .int b]), .v (.lst ((List.range (b - a)).map (natD ∘ ends rs a))), .v (.int (i : Int)), .v (natD (ends rs a i))] = _
          simp only [runB, startE, sSeq, sIf, sRet, sSet, sPar, sNil, sDrop, eBin, eUn, eC, eVar, eAnd, eOr, eNot, notD, eF, eCL, L1, L1N, nCL, aCons, aNil, eTup, nLst, eN, tV, tTru, asB, tru, tOrM, tAndM, tNotM, eIf, eSl, pSome, pNo, nUn, M.retb, List.map_cons, List.map_nil, List.length_cons, List.length_nil, List.replicate, List.cons_append, List.nil_append, List.getElem?_cons_zero, List.getElem?_cons_succ, List.set_cons_zero, List.set_cons_succ, M.bind_assoc, if_true, zl, Nat.reduceAdd, Nat.reduceLeDiff, iAny, itM, iR1, iR2, iEnumM, sOwn, sFrz, sFrzD, sSetL, sAug, addA, subA, eFd, eFp, lV, lO, lNil, lD0, sPar2, sPar3, sAsg, ix0, e6]
          rw [e7]
          rfl
        · show (eBin addM (eBin idxM (eVar 3) (eC (.int 0))) (eVar 5)) [.v (.tup rs), .v (.tup (ms.map D.int)), .v (.int k), .v (.tup [.int a, .int b]), .v (.lst ((List.range (b - a)).map (natD ∘ ends rs a))), .v (.int (i : Int)), .v (natD (ends rs a i))] = _
          simp only [runB, startE, sSeq, sIf, sRet, sSet, sPar, sNil, sDrop, eBin, eUn, eC, eVar, eAnd, eOr, eNot, notD, eF, eCL, L1, L1N, nCL, aCons, aNil, eTup, nLst, eN, tV, tTru, asB, tru, tOrM, tAndM, tNotM, eIf, eSl, pSome, pNo, nUn, M.retb, List.map_cons, List.map_nil, List.length_cons, List.length_nil, List.replicate, List.cons_append, List.nil_append, List.getElem?_cons_zero, List.getElem?_cons_succ, List.set_cons_zero, List.set_cons_succ, M.bind_assoc, if_true, zl, Nat.reduceAdd, Nat.reduceLeDiff, iAny, itM, iR1, iR2, iEnumM, sOwn, sFrz, sFrzD, sSetL, sAug, addA, subA, eFd, eFp, lV, lO, lNil, lD0, sPar2, sPar3, sAsg, ix0]
          rfl
    have e8 : (((List.range (b - a)).map (enI rs a)).filter (enP (ends rs a (k - a)))).map (enF a) = ((List.range (b - a)).filter fun i => decide (ends rs a i = ends rs a (k - a))).map fun (i : Nat) => D.int ((a : Int) + (i : Int)) := by
      have hf : List.filter (enP (ends rs a (k - a)) ∘ enI rs a) (List.range (b - a)) = List.filter (fun i => decide (ends rs a i = ends rs a (k - a))) (List.range (b - a)) := List.filter_congr fun i _ => enP_n (ends rs a (k - a)) (ends rs a i) i
      rw [List.filter_map, List.map_map, hf]
      exact List.map_congr_left fun i _ => rfl
    rw [e8] at hn
    rw [q] at e4
    simp only [runB, startE, sSeq, sIf, sRet, sSet, sPar, sNil, sDrop, eBin, eUn, eC, eVar, eAnd, eOr, eNot, notD, eF, eCL, L1, L1N, nCL, aCons, aNil, eTup, nLst, eN, tV, tTru, asB, tru, tOrM, tAndM, tNotM, eIf, eSl, pSome, pNo, nUn, M.retb, List.map_cons, List.map_nil, List.length_cons, List.length_nil, List.replicate, List.cons_append, List.nil_append, List.getElem?_cons_zero, List.getElem?_cons_succ, List.set_cons_zero, List.set_cons_succ, M.bind_assoc, if_true, zl, Nat.reduceAdd, Nat.reduceLeDiff, iAny, itM, iR1, iR2, iEnumM, sOwn, sFrz, sFrzD, sSetL, sAug, addA, subA, eFd, eFp, lV, lO, lNil, lD0, sPar2, sPar3, sAsg, e1, e2, e3, e4, isn_t, ix0, ix1, e5]
    rw [hn]
    rfl
end G
namespace G
open PySem PySem.Spec PyProof.Rows L2 F
theorem rangeD_cons (k n : Nat) : rangeD (k : Int) (n + 1) = .int (k : Int) :: rangeD ((k + 1 : Nat) : Int) n := by
  unfold rangeD
  rw [List.range_succ_eq_map, List.map_cons, List.map_map]
  congr 1
  apply List.map_congr_left
  intro i _
  show D.int ((k : Int) + ((i + 1 : Nat) : Int)) = D.int (((k + 1 : Nat) : Int) + (i : Int))
  congr 1
  omega
theorem sl_init (xs : List D) : sliceM none (some (-1)) (.lst xs) = .ret (.lst xs.dropLast) := by
  show M.ret (D.lst (cutL xs none (some (-1)))) = _
  unfold cutL
  have e : HT.sIx xs.length xs.length (some (-1)) = xs.length - 1 := by
    show (if (-1 : Int) < 0 then ((-1 : Int) + (xs.length : Int)).toNat else min (-1 : Int).toNat xs.length) = _
    rw [if_pos (by decide)]
    omega
  rw [e, HT.sIx_none, List.drop_zero, Nat.sub_zero, List.dropLast_eq_take]
def stL (st : List Int) : D := .lst (st.map D.int)
def stT (st : List Int) : D := .tup (st.map D.int)
theorem last_l (ms : List Int) (h : ms ≠ []) : idxM (.lst (ms.map D.int)) (.int (-1)) = .ret (.int (ms.getLastD 0)) := by
  obtain ⟨c, _, e1, e2⟩ := last_i ms h
  rw [e2]
  exact e1
theorem last_t (ms : List Int) (h : ms ≠ []) : idxM (.tup (ms.map D.int)) (.int (-1)) = .ret (.int (ms.getLastD 0)) := by
  obtain ⟨c, _, e1, e2⟩ := last_i ms h
  rw [e2]
  exact e1
theorem putDD_len (kvs : List (D × D)) (k : Key) (v : D) : (putDD kvs k v).length ≤ kvs.length + 1 := by
  unfold putDD
  split
  · rw [List.length_map]; omega
  · rw [List.length_append]; exact Nat.le_refl _
theorem nxt_len (r : D) (k : Int) (st : List Int) : (nxt r k st).length ≤ st.length + 1 ∧ (st ≠ [] → nxt r k st ≠ []) := by
  unfold nxt
  split
  · exact ⟨by simp, fun _ => by simp⟩
  · split
    · split
      · refine ⟨by rw [List.length_dropLast]; omega, fun _ e => ?_⟩
        have := congrArg List.length e
        rw [List.length_dropLast] at this
        simp only [List.length_nil] at this
        omega
      · exact ⟨by simp, fun _ => by simp⟩
    · exact ⟨by omega, fun h => h⟩
def standB : SM := (sSeq (sApp 2 (eCL (L1 tupleM) (aCons (eVar 1) aNil))) (sSeq (sIf (tV (eBin eqM (eBin idxM (eBin idxM (eVar 0) (eVar 4)) (eC (.int 0))) (eC (.str "open")))) (sSet 1 (eBin addM (eVar 1) (eN (nLst (aCons (eVar 4) aNil))))) sNil) (sIf (tV (eBin eqM (eBin idxM (eBin idxM (eVar 0) (eVar 4)) (eC (.int 0))) (eC (.str "end")))) (sSeq (sPutO 3 (eBin idxM (eVar 1) (eUn negM (eC (.int 1)))) (eVar 4)) (sSet 1 (eIf (tV (eBin gtM (eCL (L1 lenM) (aCons (eVar 1) aNil)) (eC (.int 1)))) (eSl (eVar 1) pNo (pSome (eUn negM (eC (.int 1))))) (eN (nLst (aCons (eVar 4) aNil)))))) sNil)))
theorem standB_eq {rs : List D} {r : D} {k : Nat} {st : List Int} {acc : List D} {dd : List (D × D)} (hr : Row r) (hk : rs[k]? = some r) (h0 : st ≠ []) (h1 : st.length ≤ 100) (h2 : acc.length < 900) (h3 : dd.length < 900) :
    ∃ dd', dd'.length ≤ dd.length + 1 ∧ standB [.v (.tup rs), .v (stL st), .own acc, .ownd dd, .v (.int (k : Int))] = .ret (.nx [.v (.tup rs), .v (stL (nxt r k st)), .own (acc ++ [stT st]), .ownd dd', .v (.int (k : Int))]) := by
  have hz : (acc.length < sizeLine) = True := eq_true (by rw [sizeLine_eq]; omega)
  have hz2 : (dd.length < sizeLine) = True := eq_true (by rw [sizeLine_eq]; omega)
  have e1 : idxM (.tup rs) (.int (k : Int)) = .ret r := ix_t hk
  have e2 : tupleM (stL st) = .ret (stT st) := rfl
  cases ho : opB r with
  | true =>
    have he := op_en ho
    refine ⟨dd, by omega, ?_⟩
    have en : nxt r k st = st ++ [(k : Int)] := by unfold nxt; rw [if_pos ho]
    have e3 : addM (stL st) (.lst [.int (k : Int)]) = .ret (stL (nxt r k st)) := by
      rw [en]
      unfold stL
      rw [add_l _ _ (by simp; omega), List.map_append]
      rfl
    unfold standB
    simp only [runB, startE, sSeq, sIf, sRet, sSet, sPar, sNil, sDrop, eBin, eUn, eC, eVar, eAnd, eOr, eNot, notD, eF, eCL, L1, L1N, nCL, aCons, aNil, eTup, nLst, eN, tV, tTru, asB, tru, tOrM, tAndM, tNotM, eIf, eSl, pSome, pNo, nUn, M.retb, List.map_cons, List.map_nil, List.length_cons, List.length_nil, List.replicate, List.cons_append, List.nil_append, List.getElem?_cons_zero, List.getElem?_cons_succ, List.set_cons_zero, List.set_cons_succ, M.bind_assoc, if_true, zl, Nat.reduceAdd, Nat.reduceLeDiff, iAny, itM, iR1, iR2, iEnumM, sOwn, sFrz, sFrzD, sSetL, sAug, addA, subA, eFd, eFp, lV, lO, lNil, lD0, sPar2, sPar3, sAsg, sApp, hz, e1, e2, hr.ix, hr.op, hr.en, ho, he, e3]
  | false =>
    cases he : enB r with
    | false =>
      refine ⟨dd, by omega, ?_⟩
      have en : nxt r k st = st := by unfold nxt; rw [if_neg (by rw [ho]; exact Bool.false_ne_true), if_neg (by rw [he]; exact Bool.false_ne_true)]
      rw [en]
      unfold standB
      simp only [runB, startE, sSeq, sIf, sRet, sSet, sPar, sNil, sDrop, eBin, eUn, eC, eVar, eAnd, eOr, eNot, notD, eF, eCL, L1, L1N, nCL, aCons, aNil, eTup, nLst, eN, tV, tTru, asB, tru, tOrM, tAndM, tNotM, eIf, eSl, pSome, pNo, nUn, M.retb, List.map_cons, List.map_nil, List.length_cons, List.length_nil, List.replicate, List.cons_append, List.nil_append, List.getElem?_cons_zero, List.getElem?_cons_succ, List.set_cons_zero, List.set_cons_succ, M.bind_assoc, if_true, zl, Nat.reduceAdd, Nat.reduceLeDiff, iAny, itM, iR1, iR2, iEnumM, sOwn, sFrz, sFrzD, sSetL, sAug, addA, subA, eFd, eFp, lV, lO, lNil, lD0, sPar2, sPar3, sAsg, sApp, hz, e1, e2, hr.ix, hr.op, hr.en, ho, he]
    | true =>
      refine ⟨putDD dd (.inl (st.getLastD 0)) (.int (k : Int)), putDD_len .., ?_⟩
      have en : nxt r k st = if 1 < st.length then st.dropLast else [(k : Int)] := by unfold nxt; rw [if_neg (by rw [ho]; exact Bool.false_ne_true), if_pos he]
      have e3 : idxM (stL st) (.int (-1)) = .ret (.int (st.getLastD 0)) := last_l st h0
      have e4 : lenM (stL st) = .ret (.int (st.length : Nat)) := by
        show M.ret (D.int (((st.map D.int).length : Nat) : Int)) = _
        rw [List.length_map]
      have e5 : keyD (.int (st.getLastD 0)) = some (.inl (st.getLastD 0)) := rfl
      unfold standB
      simp only [runB, startE, sSeq, sIf, sRet, sSet, sPar, sNil, sDrop, eBin, eUn, eC, eVar, eAnd, eOr, eNot, notD, eF, eCL, L1, L1N, nCL, aCons, aNil, eTup, nLst, eN, tV, tTru, asB, tru, tOrM, tAndM, tNotM, eIf, eSl, pSome, pNo, nUn, M.retb, List.map_cons, List.map_nil, List.length_cons, List.length_nil, List.replicate, List.cons_append, List.nil_append, List.getElem?_cons_zero, List.getElem?_cons_succ, List.set_cons_zero, List.set_cons_succ, M.bind_assoc, if_true, zl, Nat.reduceAdd, Nat.reduceLeDiff, iAny, itM, iR1, iR2, iEnumM, sOwn, sFrz, sFrzD, sSetL, sAug, addA, subA, eFd, eFp, lV, lO, lNil, lD0, sPar2, sPar3, sAsg, sApp, hz, e1, e2, hr.ix, hr.op, hr.en, ho, he, sPutO, e3, e4, e5, hz2, neg1, gt_i]
      by_cases hl : 1 < st.length
      · have e6 : sliceM none (some (-1)) (stL st) = .ret (stL (nxt r k st)) := by
          rw [en, if_pos hl]
          unfold stL
          rw [sl_init, List.map_dropLast]
        rw [decide_eq_true (show (1 : Int) < (st.length : Int) by omega)]
        simp only [runB, startE, sSeq, sIf, sRet, sSet, sPar, sNil, sDrop, eBin, eUn, eC, eVar, eAnd, eOr, eNot, notD, eF, eCL, L1, L1N, nCL, aCons, aNil, eTup, nLst, eN, tV, tTru, asB, tru, tOrM, tAndM, tNotM, eIf, eSl, pSome, pNo, nUn, M.retb, List.map_cons, List.map_nil, List.length_cons, List.length_nil, List.replicate, List.cons_append, List.nil_append, List.getElem?_cons_zero, List.getElem?_cons_succ, List.set_cons_zero, List.set_cons_succ, M.bind_assoc, if_true, zl, Nat.reduceAdd, Nat.reduceLeDiff, iAny, itM, iR1, iR2, iEnumM, sOwn, sFrz, sFrzD, sSetL, sAug, addA, subA, eFd, eFp, lV, lO, lNil, lD0, sPar2, sPar3, sAsg, e6]
      · have e6 : nxt r k st = [(k : Int)] := by rw [en, if_neg hl]
        rw [decide_eq_false (show ¬ (1 : Int) < (st.length : Int) by omega), e6]
        simp only [runB, startE, sSeq, sIf, sRet, sSet, sPar, sNil, sDrop, eBin, eUn, eC, eVar, eAnd, eOr, eNot, notD, eF, eCL, L1, L1N, nCL, aCons, aNil, eTup, nLst, eN, tV, tTru, asB, tru, tOrM, tAndM, tNotM, eIf, eSl, pSome, pNo, nUn, M.retb, List.map_cons, List.map_nil, List.length_cons, List.length_nil, List.replicate, List.cons_append, List.nil_append, List.getElem?_cons_zero, List.getElem?_cons_succ, List.set_cons_zero, List.set_cons_succ, M.bind_assoc, if_true, zl, Nat.reduceAdd, Nat.reduceLeDiff, iAny, itM, iR1, iR2, iEnumM, sOwn, sFrz, sFrzD, sSetL, sAug, addA, subA, eFd, eFp, lV, lO, lNil, lD0, sPar2, sPar3, sAsg]
        rfl
theorem stand_loop {rs : List D} (g : Pg rs) : ∀ (rest : List D) (k : Nat) (st : List Int) (acc : List D) (dd : List (D × D)) (z : Sl), (∀ i r, rest[i]? = some r → rs[k + i]? = some r) → st ≠ [] → st.length ≤ k + 1 → acc.length ≤ k → dd.length ≤ k → k + rest.length ≤ 60 →
    ∃ s' dd' w, forM (gN 4) standB (rangeD (k : Int) rest.length) [.v (.tup rs), .v (stL st), .own acc, .ownd dd, z] = .ret (.nx [.v (.tup rs), s', .own (acc ++ (stand rest k st).map stT), .ownd dd', w])
  | [], k, st, acc, dd, z, _, _, _, _, _, _ => ⟨.v (stL st), dd, z, by rw [show stand [] (k : Int) st = [] from rfl, List.map_nil, List.append_nil]; rfl⟩
  | r :: rest, k, st, acc, dd, z, h, h0, h1, h2, h3, h4 => by
    simp only [List.length_cons] at h4
    have hk : rs[k]? = some r := h 0 r rfl
    obtain ⟨dd', hd, e⟩ := standB_eq (acc := acc) (dd := dd) (g.row r (List.mem_of_getElem? hk)) hk h0 (by omega) (by omega) (by omega)
    obtain ⟨n1, n2⟩ := nxt_len r k st
    obtain ⟨s', dd2, w, ih⟩ := stand_loop g rest (k + 1) (nxt r k st) (acc ++ [stT st]) dd' (.v (.int (k : Int))) (fun i x hx => by
      have := h (i + 1) x (by simpa using hx)
      rw [show k + (i + 1) = k + 1 + i from by omega] at this
      exact this) (n2 h0) (by omega) (by simp; omega) (by omega) (by omega)
    refine ⟨s', dd2, w, ?_⟩
    rw [List.length_cons, rangeD_cons]
    show (standB [.v (.tup rs), .v (stL st), .own acc, .ownd dd, .v (.int (k : Int))] >>= _) = _
    rw [e]
    refine ih.trans ?_
    have : stand (r :: rest) (k : Int) st = st :: stand rest ((k + 1 : Nat) : Int) (nxt r k st) := rfl
    rw [this]
    simp
theorem rng1_n (n : Nat) (h : n ≤ 1000) : rng1 [.int (n : Int)] = .ret (rangeD 0 n) := by
  rw [rng1_i _ (by omega) (by omega)]
  rfl
/-- for .. in range(len(page)), the page at place 0 -/
theorem for_len {rs : List D} (hl : rs.length ≤ 60) (g : GM) (b : SM) (l : List Sl) : sFor (iR1 (aCons (eCL (L1 lenM) (aCons (eVar 0) aNil)) aNil)) g b (.v (.tup rs) :: l) = forM g b (rangeD 0 rs.length) (.v (.tup rs) :: l) := by
  have e : aCons (eCL (L1 lenM) (aCons (eVar 0) aNil)) aNil (.v (.tup rs) :: l) = .ret [.int (rs.length : Int)] := rfl
  have e2 : iR1 (aCons (eCL (L1 lenM) (aCons (eVar 0) aNil)) aNil) (.v (.tup rs) :: l) = .ret (rangeD 0 rs.length) := by
    unfold iR1
    rw [e]
    exact (M.ret_bind _ _).trans (rng1_n rs.length (by omega))
  unfold sFor
  rw [e2]
  exact M.ret_bind _ _
theorem stand_par {rs : List D} (K : SM) : (sSeq (sPar3 1 2 3 (lV (eN (nLst (aCons (eUn negM (eC (.int 1))) aNil))) (lO (nLst aNil) (lD0 lNil)))) K) [.v (.tup rs), .no, .no, .no, .no] = K [.v (.tup rs), .v (.lst [.int (-1)]), .own [], .ownd [], .no] := by
  simp only [runB, startE, sSeq, sIf, sRet, sSet, sPar, sNil, sDrop, eBin, eUn, eC, eVar, eAnd, eOr, eNot, notD, eF, eCL, L1, L1N, nCL, aCons, aNil, eTup, nLst, eN, tV, tTru, asB, tru, tOrM, tAndM, tNotM, eIf, eSl, pSome, pNo, nUn, M.retb, List.map_cons, List.map_nil, List.length_cons, List.length_nil, List.replicate, List.cons_append, List.nil_append, List.getElem?_cons_zero, List.getElem?_cons_succ, List.set_cons_zero, List.set_cons_succ, M.bind_assoc, if_true, zl, Nat.reduceAdd, Nat.reduceLeDiff, iAny, itM, iR1, iR2, iEnumM, sOwn, sFrz, sFrzD, sSetL, sAug, addA, subA, eFd, eFp, lV, lO, lNil, lD0, sPar2, sPar3, sAsg, neg1]
theorem stand_fin {rs : List D} (X : Sl) (Y : List D) (Z : List (D × D)) (W : Sl) : (sFrzD 3 (sFrz 2 (sRet (eTup (aCons (eVar 2) (aCons (eVar 3) aNil)))))) [.v (.tup rs), X, .own Y, .ownd Z, W] = .ret (.rt (.tup [.lst Y, .dic Z])) := by
  simp only [runB, startE, sSeq, sIf, sRet, sSet, sPar, sNil, sDrop, eBin, eUn, eC, eVar, eAnd, eOr, eNot, notD, eF, eCL, L1, L1N, nCL, aCons, aNil, eTup, nLst, eN, tV, tTru, asB, tru, tOrM, tAndM, tNotM, eIf, eSl, pSome, pNo, nUn, M.retb, List.map_cons, List.map_nil, List.length_cons, List.length_nil, List.replicate, List.cons_append, List.nil_append, List.getElem?_cons_zero, List.getElem?_cons_succ, List.set_cons_zero, List.set_cons_succ, M.bind_assoc, if_true, zl, Nat.reduceAdd, Nat.reduceLeDiff, iAny, itM, iR1, iR2, iEnumM, sOwn, sFrz, sFrzD, sSetL, sAug, addA, subA, eFd, eFp, lV, lO, lNil, lD0, sPar2, sPar3, sAsg]
theorem seq_nx {m k : SM} {ρ ρ' : Ev} (h : m ρ = .ret (.nx ρ')) : sSeq m k ρ = k ρ' := by
  unfold sSeq
  rw [h]
  exact M.ret_bind _ _
theorem seq_rt {m k : SM} {ρ : Ev} {d : D} (h : m ρ = .ret (.rt d)) : sSeq m k ρ = .ret (.rt d) := by
  unfold sSeq
  rw [h]
  exact M.ret_bind _ _
theorem run_rt {n : Nat} {b : SM} {args : List D} {d : D} (h : b (startE n args) = .ret (.rt d)) : runB n b args = .ret d := by
  unfold runB
  rw [h]
  exact M.ret_bind _ _
theorem stand_eq {rs : List D} (g : Pg rs) : ∃ x, M__law_stand [.tup rs] = .ret (.tup [.lst ((around rs).map stT), x]) := by
  obtain ⟨s', dd', w, e⟩ := stand_loop g rs 0 [-1] [] [] .no (fun i r hr => by rw [Nat.zero_add]; exact hr) (by simp) (by simp) (by simp) (by simp) (by have := g.len; omega)
  refine ⟨.dic dd', ?_⟩
  have hb : b__law_stand = (sSeq (sPar3 1 2 3 (lV (eN (nLst (aCons (eUn negM (eC (.int 1))) aNil))) (lO (nLst aNil) (lD0 lNil)))) (sSeq (sFor (iR1 (aCons (eCL (L1 lenM) (aCons (eVar 0) aNil)) aNil)) (gN 4) standB) (sFrzD 3 (sFrz 2 (sRet (eTup (aCons (eVar 2) (aCons (eVar 3) aNil)))))))) := rfl
  simp only [stL, List.map_cons, List.map_nil, Int.natCast_zero, List.nil_append] at e
  unfold M__law_stand
  refine run_rt ?_
  rw [hb]
  show (sSeq (sPar3 1 2 3 (lV (eN (nLst (aCons (eUn negM (eC (.int 1))) aNil))) (lO (nLst aNil) (lD0 lNil)))) _) [.v (.tup rs), .no, .no, .no, .no] = _
  rw [stand_par, seq_nx ((for_len g.len _ _ _).trans e), stand_fin]
  unfold around
  rfl
end G
namespace G
open PySem PySem.Spec PyProof.Rows L2 F
variable {rs : List D} {ms : List Int} {k : Nat}
def leD (k : Int) : D → Bool
  | .int c => decide (c ≤ k)
  | _ => false
def gtD (k : Int) : D → Bool
  | .int c => decide (k < c)
  | _ => false
theorem filter_le (ms : List Int) (k : Int) : (ms.map D.int).filter (leD k) = (ahd ms k).map D.int := by
  rw [List.filter_map]; rfl
theorem filter_gt (ms : List Int) (k : Int) : (ms.map D.int).filter (gtD k) = (bhd ms k).map D.int := by
  rw [List.filter_map]; rfl
theorem head_l (ms : List Int) (n : Int) (h : ms ≠ []) : idxM (.lst (ms.map D.int)) (.int 0) = .ret (.int (ms.headD n)) := by
  cases ms with
  | nil => exact absurd rfl h
  | cons c r => exact ix_l (i := 0) rfl
theorem law_segment_eq (h : Cs rs.length ms) (h1 : k < rs.length) : M__law_segment [.tup rs, .tup (ms.map D.int), .int k] = .ret (segD ms rs.length k) := by
  have c1 : nComp [5] (iAny (eVar 1)) (gN 5) (tV (eBin leM (eVar 5) (eVar 2))) (eVar 5) [.v (.tup rs), .v (.tup (ms.map D.int)), .v (.int (k : Int)), .no, .no, .no] = .ret (((ms.map D.int).filter (leD k)).map id) := by
    refine nComp_pure _ _ rfl (by rw [List.length_map]; exact sz1000 (by have := h.len; omega)) fun d hd => ?_
    obtain ⟨c, _, rfl⟩ := List.mem_map.mp hd
    exact ⟨_, rfl, rfl, fun _ => rfl⟩
  have c2 : nComp [5] (iAny (eVar 1)) (gN 5) (tV (eBin gtM (eVar 5) (eVar 2))) (eVar 5) [.v (.tup rs), .v (.tup (ms.map D.int)), .v (.int (k : Int)), .no, .no, .no] = .ret (((ms.map D.int).filter (gtD k)).map id) := by
    refine nComp_pure _ _ rfl (by rw [List.length_map]; exact sz1000 (by have := h.len; omega)) fun d hd => ?_
    obtain ⟨c, _, rfl⟩ := List.mem_map.mp hd
    exact ⟨_, rfl, rfl, fun _ => rfl⟩
  rw [List.map_id, filter_le] at c1
  rw [List.map_id, filter_gt] at c2
  have z1 := lst_nil_eq ((ahd ms k).map D.int) (sh_ints _)
  have z2 := lst_nil_ne ((bhd ms k).map D.int) (sh_ints _)
  unfold M__law_segment b__law_segment segD
  cases q : sgN ms rs.length k with
  | none =>
    have e := ahd_nil (sgN_none q)
    rw [e] at c1 z1
    simp only [runB, startE, sSeq, sIf, sRet, sSet, sPar, sNil, sDrop, eBin, eUn, eC, eVar, eAnd, eOr, eNot, notD, eF, eCL, L1, L1N, nCL, aCons, aNil, eTup, nLst, eN, tV, tTru, asB, tru, tOrM, tAndM, tNotM, eIf, eSl, pSome, pNo, nUn, M.retb, List.map_cons, List.map_nil, List.length_cons, List.length_nil, List.replicate, List.cons_append, List.nil_append, List.getElem?_cons_zero, List.getElem?_cons_succ, List.set_cons_zero, List.set_cons_succ, M.bind_assoc, if_true, zl, Nat.reduceAdd, Nat.reduceLeDiff, iAny, itM, iR1, iR2, iEnumM, sOwn, sFrz, sFrzD, sSetL, sAug, addA, subA, eFd, eFp, lV, lO, lNil, lD0, sPar2, sPar3, sAsg, c1, c2, z1]
    rfl
  | some p =>
    obtain ⟨a, b⟩ := p
    obtain ⟨hs, _, _, _⟩ := sgN_some h h1 q
    obtain ⟨n0, n1, n2⟩ := ahd_last hs
    have y1 := last_l (ahd ms k) n0
    rw [n1] at y1
    have i1 : ((ahd ms k).map D.int).isEmpty = false := by
      cases w : ahd ms k with
      | nil => exact absurd w n0
      | cons _ _ => rfl
    rw [i1] at z1
    simp only [runB, startE, sSeq, sIf, sRet, sSet, sPar, sNil, sDrop, eBin, eUn, eC, eVar, eAnd, eOr, eNot, notD, eF, eCL, L1, L1N, nCL, aCons, aNil, eTup, nLst, eN, tV, tTru, asB, tru, tOrM, tAndM, tNotM, eIf, eSl, pSome, pNo, nUn, M.retb, List.map_cons, List.map_nil, List.length_cons, List.length_nil, List.replicate, List.cons_append, List.nil_append, List.getElem?_cons_zero, List.getElem?_cons_succ, List.set_cons_zero, List.set_cons_succ, M.bind_assoc, if_true, zl, Nat.reduceAdd, Nat.reduceLeDiff, iAny, itM, iR1, iR2, iEnumM, sOwn, sFrz, sFrzD, sSetL, sAug, addA, subA, eFd, eFp, lV, lO, lNil, lD0, sPar2, sPar3, sAsg, c1, c2, z1, neg1, y1, z2]
    cases w : bhd ms (k : Int) with
    | nil =>
      rw [w] at n2
      have n2 : (rs.length : Int) = (b : Int) := n2
      simp only [runB, startE, sSeq, sIf, sRet, sSet, sPar, sNil, sDrop, eBin, eUn, eC, eVar, eAnd, eOr, eNot, notD, eF, eCL, L1, L1N, nCL, aCons, aNil, eTup, nLst, eN, tV, tTru, asB, tru, tOrM, tAndM, tNotM, eIf, eSl, pSome, pNo, nUn, M.retb, List.map_cons, List.map_nil, List.length_cons, List.length_nil, List.replicate, List.cons_append, List.nil_append, List.getElem?_cons_zero, List.getElem?_cons_succ, List.set_cons_zero, List.set_cons_succ, M.bind_assoc, if_true, zl, Nat.reduceAdd, Nat.reduceLeDiff, iAny, itM, iR1, iR2, iEnumM, sOwn, sFrz, sFrzD, sSetL, sAug, addA, subA, eFd, eFp, lV, lO, lNil, lD0, sPar2, sPar3, sAsg, List.isEmpty_nil, Bool.not_true, len_t, sub_i, n2]
    | cons c r =>
      have y2 := head_l (c :: r) rs.length (by simp)
      rw [w] at n2
      rw [n2] at y2
      simp only [List.map_cons] at y2
      simp only [runB, startE, sSeq, sIf, sRet, sSet, sPar, sNil, sDrop, eBin, eUn, eC, eVar, eAnd, eOr, eNot, notD, eF, eCL, L1, L1N, nCL, aCons, aNil, eTup, nLst, eN, tV, tTru, asB, tru, tOrM, tAndM, tNotM, eIf, eSl, pSome, pNo, nUn, M.retb, List.map_cons, List.map_nil, List.length_cons, List.length_nil, List.replicate, List.cons_append, List.nil_append, List.getElem?_cons_zero, List.getElem?_cons_succ, List.set_cons_zero, List.set_cons_succ, M.bind_assoc, if_true, zl, Nat.reduceAdd, Nat.reduceLeDiff, iAny, itM, iR1, iR2, iEnumM, sOwn, sFrz, sFrzD, sSetL, sAug, addA, subA, eFd, eFp, lV, lO, lNil, lD0, sPar2, sPar3, sAsg, List.isEmpty_cons, Bool.not_false, y2, sub_i]
/-! ## layers, counted by the law -/
theorem around_len (rs : List D) : (around rs).length = rs.length := by unfold around; exact stand_len ..
theorem around_ne (rs : List D) : ∀ st ∈ around rs, st ≠ [] := by
  have key : ∀ (rs : List D) (k : Int) (st : List Int), st ≠ [] → ∀ x ∈ stand rs k st, x ≠ [] := by
    intro rs
    induction rs with
    | nil => intro k st _ x hx; cases hx
    | cons r rs ih =>
      intro k st h x hx
      rcases List.mem_cons.mp hx with e | hx
      · rw [e]; exact h
      · exact ih _ _ ((nxt_len r k st).2 h) x hx
  unfold around
  exact key rs 0 [-1] (by simp)
@[irreducible] def rowAt (rs : List D) (i : Nat) : D := rs.getD i .non
@[irreducible] def stAt (rs : List D) (i : Nat) : List Int := (around rs).getD i []
theorem rowAt_get {rs : List D} {i : Nat} (h : i < rs.length) : rs[i]? = some (rowAt rs i) := by
  unfold rowAt
  rw [List.getD_eq_getElem?_getD, List.getElem?_eq_getElem h]; rfl
theorem stAt_get {rs : List D} {i : Nat} (h : i < rs.length) : (around rs)[i]? = some (stAt rs i) := by
  unfold stAt
  have h : i < (around rs).length := by rw [around_len]; exact h
  rw [List.getD_eq_getElem?_getD, List.getElem?_eq_getElem h]; rfl
theorem ends_range {rs : List D} {a m : Nat} (h : a + m ≤ rs.length) : ends rs a m = ((List.range m).filter fun i => enB (rowAt rs (a + i)) && low a (stAt rs (a + i))).length := by
  have e : ((rs.zip (around rs)).drop a).take m = (List.range m).map fun i => (rowAt rs (a + i), stAt rs (a + i)) := by
    apply List.ext_getElem?
    intro i
    by_cases hi : i < m
    · rw [List.getElem?_take_of_lt hi, List.getElem?_drop, List.getElem?_map, List.getElem?_range hi]
      exact List.getElem?_zip_eq_some.mpr ⟨rowAt_get (by omega), stAt_get (by omega)⟩
    · rw [List.getElem?_eq_none (by rw [List.length_take]; omega), List.getElem?_eq_none (by rw [List.length_map, List.length_range]; omega)]
  unfold ends
  rw [e, List.filter_map, List.length_map]
  rfl
theorem rng2_n (a b : Nat) (ha : a ≤ 1000) (hb : b ≤ 1000) : rng2 [.int (a : Int), .int (b : Int)] = .ret (rangeD (a : Int) (b - a)) := by
  have e : rng2 [.int (a : Int), .int (b : Int)] = .ret (rangeD (a : Int) ((b : Int) - (a : Int)).toNat) := by
    have h1 : (-(2 ^ 62) : Int) ≤ (a : Int) := by omega
    have h2 : (a : Int) < 2 ^ 62 := by omega
    have h3 : (-(2 ^ 62) : Int) ≤ (b : Int) := by omega
    have h4 : (b : Int) < 2 ^ 62 := by omega
    unfold rng2
    dsimp only
    rw [if_pos ⟨h1, h2, h3, h4⟩]
  rw [e, show ((b : Int) - (a : Int)).toNat = b - a by omega]
def enAt (rs : List D) : D → Bool
  | .int j => enB (rowAt rs j.toNat)
  | _ => false
def lowAt (rs : List D) (a : Nat) : D → Bool
  | .int j => low a (stAt rs j.toNat)
  | _ => false
theorem rangeD_nat (a m : Nat) : rangeD (a : Int) m = (List.range m).map fun i => D.int ((a + i : Nat) : Int) := by
  unfold rangeD
  apply List.map_congr_left
  intro i _
  congr 1
theorem law_layer_eq (g : Pg rs) {a j : Nat} (h1 : a ≤ j) (h2 : j ≤ rs.length) : M__law_layer [.tup rs, .lst ((around rs).map stT), .int a, .int j] = .ret (natD (ends rs a (j - a))) := by
  have hl := g.len
  have c1 : nComp [5] (iR2 (aCons (eVar 2) (aCons (eVar 3) aNil))) (gN 5) (tV (eBin eqM (eBin idxM (eBin idxM (eVar 0) (eVar 5)) (eC (.int 0))) (eC (.str "end")))) (eVar 5) [.v (.tup rs), .v (.lst ((around rs).map stT)), .v (.int (a : Int)), .v (.int (j : Int)), .no, .no]
      = .ret (((rangeD (a : Int) (j - a)).filter (enAt rs)).map id) := by
    refine nComp_pure _ _ ((M.ret_bind _ _).trans (rng2_n a j (by omega) (by omega))) (by rw [rangeD_len]; exact sz1000 (by omega)) fun d hd => ?_
    rw [rangeD_nat] at hd
    obtain ⟨i, hi, rfl⟩ := List.mem_map.mp hd
    have hi := List.mem_range.mp hi
    refine ⟨_, rfl, ?_, fun _ => rfl⟩
    have hr := rowAt_get (rs := rs) (i := a + i) (by omega)
    have e1 : idxM (.tup rs) (.int ((a + i : Nat) : Int)) = .ret (rowAt rs (a + i)) := ix_t hr
    have r := g.row _ (List.mem_of_getElem? hr)
    show (tV (eBin eqM (eBin idxM (eBin idxM (eVar 0) (eVar 5)) (eC (.int 0))) (eC (.str "end")))) [.v (.tup rs), .v (.lst ((around rs).map stT)), .v (.int (a : Int)), .v (.int (j : Int)), .no, .v (.int ((a + i : Nat) : Int))] = _
    simp only [runB, startE, sSeq, sIf, sRet, sSet, sPar, sNil, sDrop, eBin, eUn, eC, eVar, eAnd, eOr, eNot, notD, eF, eCL, L1, L1N, nCL, aCons, aNil, eTup, nLst, eN, tV, tTru, asB, tru, tOrM, tAndM, tNotM, eIf, eSl, pSome, pNo, nUn, M.retb, List.map_cons, List.map_nil, List.length_cons, List.length_nil, List.replicate, List.cons_append, List.nil_append, List.getElem?_cons_zero, List.getElem?_cons_succ, List.set_cons_zero, List.set_cons_succ, M.bind_assoc, if_true, zl, Nat.reduceAdd, Nat.reduceLeDiff, iAny, itM, iR1, iR2, iEnumM, sOwn, sFrz, sFrzD, sSetL, sAug, addA, subA, eFd, eFp, lV, lO, lNil, lD0, sPar2, sPar3, sAsg, e1, r.ix, r.en]
    rfl
  rw [List.map_id] at c1
  have c2 : nComp [5] (iAny (eVar 4)) (gN 5) (tOrM (tV (eBin eqM (eCL (L1 lenM) (aCons (eBin idxM (eVar 1) (eVar 5)) aNil)) (eC (.int 1)))) (tV (eBin ltM (eBin idxM (eBin idxM (eVar 1) (eVar 5)) (eUn negM (eC (.int 1)))) (eVar 2)))) (eVar 5) [.v (.tup rs), .v (.lst ((around rs).map stT)), .v (.int (a : Int)), .v (.int (j : Int)), .v (.lst ((rangeD (a : Int) (j - a)).filter (enAt rs))), .no]
      = .ret ((((rangeD (a : Int) (j - a)).filter (enAt rs)).filter (lowAt rs a)).map id) := by
    refine nComp_pure _ _ rfl (Nat.le_trans (List.length_filter_le _ _) (by rw [rangeD_len]; exact sz1000 (by omega))) fun d hd => ?_
    have hd := (List.mem_filter.mp hd).1
    rw [rangeD_nat] at hd
    obtain ⟨i, hi, rfl⟩ := List.mem_map.mp hd
    have hi := List.mem_range.mp hi
    refine ⟨_, rfl, ?_, fun _ => rfl⟩
    have hs := stAt_get (rs := rs) (i := a + i) (by omega)
    have hne := around_ne rs _ (List.mem_of_getElem? hs)
    have e1 : idxM (.lst ((around rs).map stT)) (.int ((a + i : Nat) : Int)) = .ret (stT (stAt rs (a + i))) := ix_l (by rw [List.getElem?_map, hs]; rfl)
    have e2 : idxM (stT (stAt rs (a + i))) (.int (-1)) = .ret (.int ((stAt rs (a + i)).getLastD 0)) := last_t _ hne
    have e3 : lenM (stT (stAt rs (a + i))) = .ret (.int ((stAt rs (a + i)).length : Nat)) := by
      show M.ret (D.int ((((stAt rs (a + i)).map D.int).length : Nat) : Int)) = _
      rw [List.length_map]
    show (tOrM (tV (eBin eqM (eCL (L1 lenM) (aCons (eBin idxM (eVar 1) (eVar 5)) aNil)) (eC (.int 1)))) (tV (eBin ltM (eBin idxM (eBin idxM (eVar 1) (eVar 5)) (eUn negM (eC (.int 1)))) (eVar 2)))) [.v (.tup rs), .v (.lst ((around rs).map stT)), .v (.int (a : Int)), .v (.int (j : Int)), .v (.lst ((rangeD (a : Int) (j - a)).filter (enAt rs))), .v (.int ((a + i : Nat) : Int))] = M.ret (low a (stAt rs (a + i)))
    unfold low
    by_cases hl1 : (stAt rs (a + i)).length = 1
    · have e4 : eqM (.int ((stAt rs (a + i)).length : Nat)) (.int 1) = .ret (.bl true) := by rw [eq_i, hl1]; rfl
      rw [decide_eq_true hl1]
      simp only [runB, startE, sSeq, sIf, sRet, sSet, sPar, sNil, sDrop, eBin, eUn, eC, eVar, eAnd, eOr, eNot, notD, eF, eCL, L1, L1N, nCL, aCons, aNil, eTup, nLst, eN, tV, tTru, asB, tru, tOrM, tAndM, tNotM, eIf, eSl, pSome, pNo, nUn, M.retb, List.map_cons, List.map_nil, List.length_cons, List.length_nil, List.replicate, List.cons_append, List.nil_append, List.getElem?_cons_zero, List.getElem?_cons_succ, List.set_cons_zero, List.set_cons_succ, M.bind_assoc, if_true, zl, Nat.reduceAdd, Nat.reduceLeDiff, iAny, itM, iR1, iR2, iEnumM, sOwn, sFrz, sFrzD, sSetL, sAug, addA, subA, eFd, eFp, lV, lO, lNil, lD0, sPar2, sPar3, sAsg, e1, e3, e4]
      rfl
    · have e4 : eqM (.int ((stAt rs (a + i)).length : Nat)) (.int 1) = .ret (.bl false) := eq_no (by omega)
      rw [decide_eq_false hl1]
      simp only [runB, startE, sSeq, sIf, sRet, sSet, sPar, sNil, sDrop, eBin, eUn, eC, eVar, eAnd, eOr, eNot, notD, eF, eCL, L1, L1N, nCL, aCons, aNil, eTup, nLst, eN, tV, tTru, asB, tru, tOrM, tAndM, tNotM, eIf, eSl, pSome, pNo, nUn, M.retb, List.map_cons, List.map_nil, List.length_cons, List.length_nil, List.replicate, List.cons_append, List.nil_append, List.getElem?_cons_zero, List.getElem?_cons_succ, List.set_cons_zero, List.set_cons_succ, M.bind_assoc, if_true, zl, Nat.reduceAdd, Nat.reduceLeDiff, iAny, itM, iR1, iR2, iEnumM, sOwn, sFrz, sFrzD, sSetL, sAug, addA, subA, eFd, eFp, lV, lO, lNil, lD0, sPar2, sPar3, sAsg, e1, e3, e4, neg1, e2, lt_i]
      rfl
  rw [List.map_id, List.filter_filter] at c2
  have e9 : (((rangeD (a : Int) (j - a)).filter fun x => enAt rs x && lowAt rs a x).length) = ends rs a (j - a) := by
    rw [ends_range (rs := rs) (a := a) (m := j - a) (by omega), rangeD_nat, List.filter_map, List.length_map]
    rfl
  unfold M__law_layer b__law_layer
  simp only [runB, startE, sSeq, sIf, sRet, sSet, sPar, sNil, sDrop, eBin, eUn, eC, eVar, eAnd, eOr, eNot, notD, eF, eCL, L1, L1N, nCL, aCons, aNil, eTup, nLst, eN, tV, tTru, asB, tru, tOrM, tAndM, tNotM, eIf, eSl, pSome, pNo, nUn, M.retb, List.map_cons, List.map_nil, List.length_cons, List.length_nil, List.replicate, List.cons_append, List.nil_append, List.getElem?_cons_zero, List.getElem?_cons_succ, List.set_cons_zero, List.set_cons_succ, M.bind_assoc, if_true, zl, Nat.reduceAdd, Nat.reduceLeDiff, iAny, itM, iR1, iR2, iEnumM, sOwn, sFrz, sFrzD, sSetL, sAug, addA, subA, eFd, eFp, lV, lO, lNil, lD0, sPar2, sPar3, sAsg, c1]
  rw [c2]
  simp only [runB, startE, sSeq, sIf, sRet, sSet, sPar, sNil, sDrop, eBin, eUn, eC, eVar, eAnd, eOr, eNot, notD, eF, eCL, L1, L1N, nCL, aCons, aNil, eTup, nLst, eN, tV, tTru, asB, tru, tOrM, tAndM, tNotM, eIf, eSl, pSome, pNo, nUn, M.retb, List.map_cons, List.map_nil, List.length_cons, List.length_nil, List.replicate, List.cons_append, List.nil_append, List.getElem?_cons_zero, List.getElem?_cons_succ, List.set_cons_zero, List.set_cons_succ, M.bind_assoc, if_true, zl, Nat.reduceAdd, Nat.reduceLeDiff, iAny, itM, iR1, iR2, iEnumM, sOwn, sFrz, sFrzD, sSetL, sAug, addA, subA, eFd, eFp, lV, lO, lNil, lD0, sPar2, sPar3, sAsg, len_l]
  rw [← e9]
  unfold natD
  have e10 : (fun x => lowAt rs a x && enAt rs x) = fun x => enAt rs x && lowAt rs a x := funext fun x => Bool.and_comm _ _
  first
    | rfl
    | rw [e10]
end G
namespace G
open PySem PySem.Spec PyProof.Rows L2 F
variable {rs : List D} {ms : List Int} {k : Nat}
def duP (rs : List D) (a t : Nat) : D → Bool
  | .int j => decide (ends rs a (j.toNat - a) = t)
  | _ => false
theorem eq_nat (v t : Nat) : eqM (natD v) (natD t) = .ret (.bl (decide (v = t))) := by
  have e : eqM (natD v) (natD t) = .ret (.bl ((v : Int) == (t : Int))) := rfl
  rw [e]
  congr 2
  rw [Bool.eq_iff_iff, beq_iff_eq, decide_eq_true_eq]
  omega
theorem duP_i (rs : List D) (a t i : Nat) : duP rs a t (.int ((a + i : Nat) : Int)) = decide (ends rs a i = t) := by
  unfold duP
  dsimp only
  rw [Int.toNat_natCast, Nat.add_sub_cancel_left]
theorem due_rows (g : Pg rs) {a b t : Nat} {z1 z6 z7 : Sl} {x : D} (hab : a ≤ b) (hb : b ≤ rs.length) :
    nComp [7] (iR2 (aCons (eBin idxM (eVar 4) (eC (.int 0))) (aCons (eBin addM (eBin idxM (eVar 4) (eC (.int 1))) (eC (.int 1))) aNil))) (gN 7) (tV (eBin eqM (eF 4 M__law_layer (aCons (eVar 0) (aCons (eVar 2) (aCons (eBin idxM (eVar 4) (eC (.int 0))) (aCons (eVar 7) aNil))))) (eVar 5))) (eVar 7)
      [.v (.tup rs), z1, .v (.lst ((around rs).map stT)), .v x, .v (.tup [.int (a : Int), .int ((b : Int) - 1)]), .v (natD t), z6, z7]
      = .ret (((List.range (b - a)).filter fun i => decide (ends rs a i = t)).map fun (i : Nat) => D.int ((a : Int) + (i : Int))) := by
  have hl := g.len
  have key : nComp [7] (iR2 (aCons (eBin idxM (eVar 4) (eC (.int 0))) (aCons (eBin addM (eBin idxM (eVar 4) (eC (.int 1))) (eC (.int 1))) aNil))) (gN 7) (tV (eBin eqM (eF 4 M__law_layer (aCons (eVar 0) (aCons (eVar 2) (aCons (eBin idxM (eVar 4) (eC (.int 0))) (aCons (eVar 7) aNil))))) (eVar 5))) (eVar 7)
      [.v (.tup rs), z1, .v (.lst ((around rs).map stT)), .v x, .v (.tup [.int (a : Int), .int ((b : Int) - 1)]), .v (natD t), z6, z7]
      = .ret (((rangeD (a : Int) (b - a)).filter (duP rs a t)).map id) := by
    refine nComp_pure _ _ ?_ (by rw [rangeD_len]; exact sz1000 (by omega)) fun d hd => ?_
    · have e : (aCons (eBin idxM (eVar 4) (eC (.int 0))) (aCons (eBin addM (eBin idxM (eVar 4) (eC (.int 1))) (eC (.int 1))) aNil)) [.v (.tup rs), z1, .v (.lst ((around rs).map stT)), .v x, .v (.tup [.int (a : Int), .int ((b : Int) - 1)]), .v (natD t), z6, z7] = .ret [.int (a : Int), .int (b : Int)] := by
        simp only [runB, startE, sSeq, sIf, sRet, sSet, sPar, sNil, sDrop, eBin, eUn, eC, eVar, eAnd, eOr, eNot, notD, eF, eCL, L1, L1N, nCL, aCons, aNil, eTup, nLst, eN, tV, tTru, asB, tru, tOrM, tAndM, tNotM, eIf, eSl, pSome, pNo, nUn, M.retb, List.map_cons, List.map_nil, List.length_cons, List.length_nil, List.replicate, List.cons_append, List.nil_append, List.getElem?_cons_zero, List.getElem?_cons_succ, List.set_cons_zero, List.set_cons_succ, M.bind_assoc, if_true, zl, Nat.reduceAdd, Nat.reduceLeDiff, iAny, itM, iR1, iR2, iEnumM, sOwn, sFrz, sFrzD, sSetL, sAug, addA, subA, eFd, eFp, lV, lO, lNil, lD0, sPar2, sPar3, sAsg, ix0, ix1, add_i]
        rw [show (b : Int) - 1 + 1 = (b : Int) by omega]
      unfold iR2
      rw [e]
      exact (M.ret_bind _ _).trans (rng2_n a b (by omega) (by omega))
    · rw [rangeD_nat] at hd
      obtain ⟨i, hi, rfl⟩ := List.mem_map.mp hd
      have hi := List.mem_range.mp hi
      refine ⟨_, rfl, ?_, fun _ => rfl⟩
      have e1 := law_layer_eq g (a := a) (j := a + i) (by omega) (by omega)
      rw [Nat.add_sub_cancel_left] at e1
      rw [duP_i]
      show (tV (eBin eqM (eF 4 M__law_layer (aCons (eVar 0) (aCons (eVar 2) (aCons (eBin idxM (eVar 4) (eC (.int 0))) (aCons (eVar 7) aNil))))) (eVar 5))) [.v (.tup rs), z1, .v (.lst ((around rs).map stT)), .v x, .v (.tup [.int (a : Int), .int ((b : Int) - 1)]), .v (natD t), z6, .v (.int ((a + i : Nat) : Int))] = M.ret (decide (ends rs a i = t))
      simp only [runB, startE, sSeq, sIf, sRet, sSet, sPar, sNil, sDrop, eBin, eUn, eC, eVar, eAnd, eOr, eNot, notD, eF, eCL, L1, L1N, nCL, aCons, aNil, eTup, nLst, eN, tV, tTru, asB, tru, tOrM, tAndM, tNotM, eIf, eSl, pSome, pNo, nUn, M.retb, List.map_cons, List.map_nil, List.length_cons, List.length_nil, List.replicate, List.cons_append, List.nil_append, List.getElem?_cons_zero, List.getElem?_cons_succ, List.set_cons_zero, List.set_cons_succ, M.bind_assoc, if_true, zl, Nat.reduceAdd, Nat.reduceLeDiff, iAny, itM, iR1, iR2, iEnumM, sOwn, sFrz, sFrzD, sSetL, sAug, addA, subA, eFd, eFp, lV, lO, lNil, lD0, sPar2, sPar3, sAsg, ix0, e1, eq_nat]
  rw [key, List.map_id, rangeD_nat, List.filter_map]
  have hf : List.filter (duP rs a t ∘ fun i => D.int ((a + i : Nat) : Int)) (List.range (b - a)) = List.filter (fun i => decide (ends rs a i = t)) (List.range (b - a)) := List.filter_congr fun i _ => duP_i rs a t i
  rw [hf]
  have hfun : (fun i : Nat => D.int ((a + i : Nat) : Int)) = fun (i : Nat) => D.int ((a : Int) + (i : Int)) := funext fun i => by rw [Int.natCast_add]
  exact congrArg (fun f : Nat → D => M.ret (List.map f (List.filter (fun i => decide (ends rs a i = t)) (List.range (b - a))))) hfun
def toldD (rs : List D) (ms : List Int) (k : Nat) : D := .lst [segD ms rs.length k, layD rs ms k, rwsD rs ms k]
theorem due_eq (g : Pg rs) (h : Cs rs.length ms) (h1 : k < rs.length) : M__law_due [.tup rs, .tup (ms.map D.int), .lst ((around rs).map stT), .int k] = .ret (toldD rs ms k) := by
  have e1 := law_segment_eq (k := k) h h1
  unfold M__law_due b__law_due toldD layD rwsD
  cases q : sgN ms rs.length k with
  | none =>
    have es : segD ms rs.length k = .non := by unfold segD; rw [q]
    rw [es] at e1 ⊢
    simp only [runB, startE, sSeq, sIf, sRet, sSet, sPar, sNil, sDrop, eBin, eUn, eC, eVar, eAnd, eOr, eNot, notD, eF, eCL, L1, L1N, nCL, aCons, aNil, eTup, nLst, eN, tV, tTru, asB, tru, tOrM, tAndM, tNotM, eIf, eSl, pSome, pNo, nUn, M.retb, List.map_cons, List.map_nil, List.length_cons, List.length_nil, List.replicate, List.cons_append, List.nil_append, List.getElem?_cons_zero, List.getElem?_cons_succ, List.set_cons_zero, List.set_cons_succ, M.bind_assoc, if_true, zl, Nat.reduceAdd, Nat.reduceLeDiff, iAny, itM, iR1, iR2, iEnumM, sOwn, sFrz, sFrzD, sSetL, sAug, addA, subA, eFd, eFp, lV, lO, lNil, lD0, sPar2, sPar3, sAsg, e1, isn_n]
  | some p =>
    obtain ⟨a, b⟩ := p
    obtain ⟨_, h2, h3, h4⟩ := sgN_some h h1 q
    have es : segD ms rs.length k = .tup [.int a, .int ((b : Int) - 1)] := by unfold segD; rw [q]
    rw [es] at e1 ⊢
    have e2 := law_layer_eq g (a := a) (j := k) h2 (by omega)
    simp only [runB, startE, sSeq, sIf, sRet, sSet, sPar, sNil, sDrop, eBin, eUn, eC, eVar, eAnd, eOr, eNot, notD, eF, eCL, L1, L1N, nCL, aCons, aNil, eTup, nLst, eN, tV, tTru, asB, tru, tOrM, tAndM, tNotM, eIf, eSl, pSome, pNo, nUn, M.retb, List.map_cons, List.map_nil, List.length_cons, List.length_nil, List.replicate, List.cons_append, List.nil_append, List.getElem?_cons_zero, List.getElem?_cons_succ, List.set_cons_zero, List.set_cons_succ, M.bind_assoc, if_true, zl, Nat.reduceAdd, Nat.reduceLeDiff, iAny, itM, iR1, iR2, iEnumM, sOwn, sFrz, sFrzD, sSetL, sAug, addA, subA, eFd, eFp, lV, lO, lNil, lD0, sPar2, sPar3, sAsg, e1, isn_t, ix0, e2]
    rw [due_rows g (by omega) h4]
    simp only [runB, startE, sSeq, sIf, sRet, sSet, sPar, sNil, sDrop, eBin, eUn, eC, eVar, eAnd, eOr, eNot, notD, eF, eCL, L1, L1N, nCL, aCons, aNil, eTup, nLst, eN, tV, tTru, asB, tru, tOrM, tAndM, tNotM, eIf, eSl, pSome, pNo, nUn, M.retb, List.map_cons, List.map_nil, List.length_cons, List.length_nil, List.replicate, List.cons_append, List.nil_append, List.getElem?_cons_zero, List.getElem?_cons_succ, List.set_cons_zero, List.set_cons_succ, M.bind_assoc, if_true, zl, Nat.reduceAdd, Nat.reduceLeDiff, iAny, itM, iR1, iR2, iEnumM, sOwn, sFrz, sFrzD, sSetL, sAug, addA, subA, eFd, eFp, lV, lO, lNil, lD0, sPar2, sPar3, sAsg]
    rfl
end G
namespace G
open PySem PySem.Spec PyProof.Rows L2 F
variable {rs : List D} {ms : List Int} {k : Nat}
theorem ends_le (rs : List D) (a i : Nat) : ends rs a i ≤ i := by
  unfold ends
  refine Nat.le_trans (List.length_filter_le _ _) ?_
  rw [List.length_take]
  omega
/-- whole numbers below 1000 -/
def smB : D → Bool
  | .int i => decide (i.natAbs < 1000)
  | _ => false
theorem sm_ok {d : D} (h : smB d = true) : D.ok d = true ∧ d.dep = 0 ∧ D.w d = 64 := by
  cases d with
  | int i =>
    have h : i.natAbs < 1000 := by simpa [smB] using h
    refine ⟨?_, rfl, rfl⟩
    show decide (i.natAbs < 10 ^ 61) = true
    exact decide_eq_true (Nat.lt_of_lt_of_le h (by decide))
  | _ => cases h
theorem sm_list {xs : List D} (h : ∀ x ∈ xs, smB x = true) (hl : xs.length < 64) : D.ok (.tup xs) = true ∧ (D.tup xs).dep ≤ 1 ∧ D.w (.tup xs) ≤ 5000 := by
  have key : ∀ xs : List D, (∀ x ∈ xs, smB x = true) → D.okL xs = true ∧ D.depL xs = 0 ∧ D.wL xs = 66 * xs.length := by
    intro xs
    induction xs with
    | nil => intro _; exact ⟨rfl, rfl, rfl⟩
    | cons x xs ih =>
      intro h
      obtain ⟨a1, a2, a3⟩ := sm_ok (h x (by simp))
      obtain ⟨b1, b2, b3⟩ := ih fun y hy => h y (List.mem_cons_of_mem _ hy)
      refine ⟨by simp only [D.okL, a1, b1, Bool.and_true], by simp only [D.depL, a2, b2]; rfl, ?_⟩
      simp only [D.wL, a3, b3, List.length_cons]
      omega
  obtain ⟨a1, a2, a3⟩ := key xs h
  refine ⟨?_, by show D.depL xs + 1 ≤ 1; omega, by show D.wL xs + 3 ≤ 5000; omega⟩
  simp only [D.ok, a1, Bool.and_true, Bool.and_eq_true, decide_eq_true_eq, Bool.or_eq_true]
  exact ⟨by omega, .inr hl⟩
structure Tok (d : D) : Prop where
  ok : D.ok d = true
  dp : d.dep ≤ 1
  w : D.w d ≤ 5000
theorem tok_sm {d : D} (h : smB d = true) : Tok d := by
  obtain ⟨a1, a2, a3⟩ := sm_ok h
  exact ⟨a1, by omega, by omega⟩
theorem tok_non : Tok .non := ⟨rfl, by decide, by decide⟩
theorem tok_tup {xs : List D} (h : ∀ x ∈ xs, smB x = true) (hl : xs.length < 64) : Tok (.tup xs) := ⟨(sm_list h hl).1, (sm_list h hl).2.1, (sm_list h hl).2.2⟩
theorem smI {i : Int} (h : i.natAbs < 1000) : smB (.int i) = true := decide_eq_true h
theorem told_ok (hl : rs.length ≤ 60) (h : Cs rs.length ms) (h1 : k < rs.length) : Tok (segD ms rs.length k) ∧ Tok (layD rs ms k) ∧ Tok (rwsD rs ms k) := by
  unfold segD layD rwsD
  cases q : sgN ms rs.length k with
  | none => exact ⟨tok_non, tok_non, tok_tup (fun x hx => by cases hx) (by decide)⟩
  | some p =>
    obtain ⟨a, b⟩ := p
    obtain ⟨_, h2, h3, h4⟩ := sgN_some h h1 q
    refine ⟨tok_tup (fun x hx => ?_) (by simp), tok_sm (smI ?_), tok_tup (fun x hx => ?_) ?_⟩
    · simp only [List.mem_cons, List.not_mem_nil, or_false] at hx
      rcases hx with e | e
      · rw [e]; exact smI (by omega)
      · rw [e]; exact smI (by omega)
    · have := ends_le rs a (k - a)
      omega
    · obtain ⟨i, hi, rfl⟩ := List.mem_map.mp hx
      have hi := List.mem_range.mp (List.mem_filter.mp hi).1
      exact smI (by omega)
    · rw [List.length_map]
      have := List.length_filter_le (fun i => decide (ends rs a i = ends rs a (k - a))) (List.range (b - a))
      rw [List.length_range] at this
      omega
theorem told_repr (hl : rs.length ≤ 60) (h : Cs rs.length ms) (h1 : k < rs.length) : ∃ z, reprM (toldD rs ms k) = .ret (.str z) := by
  obtain ⟨t1, t2, t3⟩ := told_ok hl h h1
  have ok : D.ok (toldD rs ms k) = true := by
    simp only [toldD, D.ok, D.okL, t1.ok, t2.ok, t3.ok, Bool.and_true]
    rfl
  have dp : (toldD rs ms k).dep ≤ 60 := by
    have e : (toldD rs ms k).dep = max (segD ms rs.length k).dep (max (layD rs ms k).dep (max (rwsD rs ms k).dep 0)) + 1 := rfl
    have := t1.dp; have := t2.dp; have := t3.dp
    rw [e]; omega
  have w : D.w (toldD rs ms k) ≤ 16777216 := by
    have e : D.w (toldD rs ms k) = D.w (segD ms rs.length k) + 2 + (D.w (layD rs ms k) + 2 + (D.w (rwsD rs ms k) + 2 + 0)) + 3 := rfl
    have := t1.w; have := t2.w; have := t3.w
    rw [e]; omega
  obtain ⟨z, e⟩ := shown_ok dp ok w
  exact ⟨z, e⟩
theorem ne_ss (a : Str) : neM (.str a) (.str a) = .ret (.bl false) := by
  have h : scalD (.str a) (.str a) = true := rfl
  have e : D.eqv (.str a) (.str a) = true := beq_self_eq_true a
  unfold neM
  rw [h, e]; rfl
/-! ## the law's check of one page -/
def chkT : SM := (sFrz 4 (sIf (tV (eBin neM (eCL (L1 reprM) (aCons (eVar 4) aNil)) (eCL (L1 reprM) (aCons (eF 4 M__law_due (aCons (eVar 0) (aCons (eVar 1) (aCons (eVar 2) (aCons (eVar 3) aNil))))) aNil)))) (sRet (eC (.bl false))) sNil))
theorem chkT_eq (g : Pg rs) (h : Cs rs.length ms) (h1 : k < rs.length) (z5 : Sl) : chkT [.v (.tup rs), .v (.tup (ms.map D.int)), .v (.lst ((around rs).map stT)), .v (.int (k : Int)), .own [segD ms rs.length k, layD rs ms k, rwsD rs ms k], z5]
    = .ret (.nx [.v (.tup rs), .v (.tup (ms.map D.int)), .v (.lst ((around rs).map stT)), .v (.int (k : Int)), .v (toldD rs ms k), z5]) := by
  obtain ⟨z, hz⟩ := told_repr g.len h h1
  have hz' : reprM (.lst [segD ms rs.length k, layD rs ms k, rwsD rs ms k]) = .ret (.str z) := hz
  have hd := due_eq g h h1
  unfold chkT
  simp only [runB, startE, sSeq, sIf, sRet, sSet, sPar, sNil, sDrop, eBin, eUn, eC, eVar, eAnd, eOr, eNot, notD, eF, eCL, L1, L1N, nCL, aCons, aNil, eTup, nLst, eN, tV, tTru, asB, tru, tOrM, tAndM, tNotM, eIf, eSl, pSome, pNo, nUn, M.retb, List.map_cons, List.map_nil, List.length_cons, List.length_nil, List.replicate, List.cons_append, List.nil_append, List.getElem?_cons_zero, List.getElem?_cons_succ, List.set_cons_zero, List.set_cons_succ, M.bind_assoc, if_true, zl, Nat.reduceAdd, Nat.reduceLeDiff, iAny, itM, iR1, iR2, iEnumM, sOwn, sFrz, sFrzD, sSetL, sAug, addA, subA, eFd, eFp, lV, lO, lNil, lD0, sPar2, sPar3, sAsg, hz', hd, hz, ne_ss]
  rfl
def bodA : SM := (sSeq (sOwn 4 (nLst (aCons (eF 3 M_segment_of (aCons (eVar 0) (aCons (eVar 1) (aCons (eVar 3) aNil)))) (aCons (eF 3 M_layer_of (aCons (eVar 0) (aCons (eVar 1) (aCons (eVar 3) aNil)))) (aCons (eF 3 M_rows_of_layer (aCons (eVar 0) (aCons (eVar 1) (aCons (eVar 3) aNil)))) aNil))))) chkT)
def bodB : SM := (sSeq (sOwn 4 (nLst (aCons (eFp 3 [2, 1, 0] M_segment_of (aCons (eVar 3) (aCons (eVar 1) (aCons (eVar 0) aNil)))) (aCons (eFp 3 [2, 1, 0] M_layer_of (aCons (eVar 3) (aCons (eVar 1) (aCons (eVar 0) aNil)))) aNil)))) (sSeq (sApp 4 (eFp 3 [2, 1, 0] M_rows_of_layer (aCons (eVar 3) (aCons (eVar 1) (aCons (eVar 0) aNil))))) chkT))
theorem bodA_eq (g : Pg rs) (h : Cs rs.length ms) (h1 : k < rs.length) (z4 z5 : Sl) : bodA [.v (.tup rs), .v (.tup (ms.map D.int)), .v (.lst ((around rs).map stT)), .v (.int (k : Int)), z4, z5]
    = .ret (.nx [.v (.tup rs), .v (.tup (ms.map D.int)), .v (.lst ((around rs).map stT)), .v (.int (k : Int)), .v (toldD rs ms k), z5]) := by
  have e : (sOwn 4 (nLst (aCons (eF 3 M_segment_of (aCons (eVar 0) (aCons (eVar 1) (aCons (eVar 3) aNil)))) (aCons (eF 3 M_layer_of (aCons (eVar 0) (aCons (eVar 1) (aCons (eVar 3) aNil)))) (aCons (eF 3 M_rows_of_layer (aCons (eVar 0) (aCons (eVar 1) (aCons (eVar 3) aNil)))) aNil))))) [.v (.tup rs), .v (.tup (ms.map D.int)), .v (.lst ((around rs).map stT)), .v (.int (k : Int)), z4, z5]
      = .ret (.nx [.v (.tup rs), .v (.tup (ms.map D.int)), .v (.lst ((around rs).map stT)), .v (.int (k : Int)), .own [segD ms rs.length k, layD rs ms k, rwsD rs ms k], z5]) := by
    simp only [runB, startE, sSeq, sIf, sRet, sSet, sPar, sNil, sDrop, eBin, eUn, eC, eVar, eAnd, eOr, eNot, notD, eF, eCL, L1, L1N, nCL, aCons, aNil, eTup, nLst, eN, tV, tTru, asB, tru, tOrM, tAndM, tNotM, eIf, eSl, pSome, pNo, nUn, M.retb, List.map_cons, List.map_nil, List.length_cons, List.length_nil, List.replicate, List.cons_append, List.nil_append, List.getElem?_cons_zero, List.getElem?_cons_succ, List.set_cons_zero, List.set_cons_succ, M.bind_assoc, if_true, zl, Nat.reduceAdd, Nat.reduceLeDiff, iAny, itM, iR1, iR2, iEnumM, sOwn, sFrz, sFrzD, sSetL, sAug, addA, subA, eFd, eFp, lV, lO, lNil, lD0, sPar2, sPar3, sAsg, segment_of_eq g h h1, layer_of_eq g h h1, rows_of_layer_eq g h h1]
  exact (seq_nx e).trans (chkT_eq g h h1 z5)
theorem eFp3 (fM : List D → M D) (a b c : D) (ρ : Ev) (h : (aCons (eVar 3) (aCons (eVar 1) (aCons (eVar 0) aNil))) ρ = .ret [a, b, c]) : eFp 3 [2, 1, 0] fM (aCons (eVar 3) (aCons (eVar 1) (aCons (eVar 0) aNil))) ρ = fM [c, b, a] := by
  unfold eFp eF
  rw [h]
  exact M.ret_bind _ _
theorem bodB_eq (g : Pg rs) (h : Cs rs.length ms) (h1 : k < rs.length) (z4 z5 : Sl) : bodB [.v (.tup rs), .v (.tup (ms.map D.int)), .v (.lst ((around rs).map stT)), .v (.int (k : Int)), z4, z5]
    = .ret (.nx [.v (.tup rs), .v (.tup (ms.map D.int)), .v (.lst ((around rs).map stT)), .v (.int (k : Int)), .v (toldD rs ms k), z5]) := by
  have ea : ∀ z4 : Sl, (aCons (eVar 3) (aCons (eVar 1) (aCons (eVar 0) aNil))) [.v (.tup rs), .v (.tup (ms.map D.int)), .v (.lst ((around rs).map stT)), .v (.int (k : Int)), z4, z5] = .ret [.int (k : Int), .tup (ms.map D.int), .tup rs] := fun _ => rfl
  have e : (sOwn 4 (nLst (aCons (eFp 3 [2, 1, 0] M_segment_of (aCons (eVar 3) (aCons (eVar 1) (aCons (eVar 0) aNil)))) (aCons (eFp 3 [2, 1, 0] M_layer_of (aCons (eVar 3) (aCons (eVar 1) (aCons (eVar 0) aNil)))) aNil)))) [.v (.tup rs), .v (.tup (ms.map D.int)), .v (.lst ((around rs).map stT)), .v (.int (k : Int)), z4, z5]
      = .ret (.nx [.v (.tup rs), .v (.tup (ms.map D.int)), .v (.lst ((around rs).map stT)), .v (.int (k : Int)), .own [segD ms rs.length k, layD rs ms k], z5]) := by
    have q1 := (eFp3 M_segment_of _ _ _ _ (ea z4)).trans (segment_of_eq g h h1)
    have q2 := (eFp3 M_layer_of _ _ _ _ (ea z4)).trans (layer_of_eq g h h1)
    simp only [sOwn, nLst, aCons, aNil, q1, q2, M.retb, M.bind_assoc, List.length_cons, List.length_nil, Nat.reduceAdd, zl, Nat.reduceLeDiff, if_true, List.set_cons_succ, List.set_cons_zero]
  have e2 : (sApp 4 (eFp 3 [2, 1, 0] M_rows_of_layer (aCons (eVar 3) (aCons (eVar 1) (aCons (eVar 0) aNil))))) [.v (.tup rs), .v (.tup (ms.map D.int)), .v (.lst ((around rs).map stT)), .v (.int (k : Int)), .own [segD ms rs.length k, layD rs ms k], z5]
      = .ret (.nx [.v (.tup rs), .v (.tup (ms.map D.int)), .v (.lst ((around rs).map stT)), .v (.int (k : Int)), .own [segD ms rs.length k, layD rs ms k, rwsD rs ms k], z5]) := by
    have q3 := (eFp3 M_rows_of_layer _ _ _ _ (ea (.own [segD ms rs.length k, layD rs ms k]))).trans (rows_of_layer_eq g h h1)
    have hz : ([segD ms rs.length k, layD rs ms k].length < sizeLine) = True := eq_true (by rw [sizeLine_eq]; simp)
    simp only [sApp, List.getElem?_cons_succ, List.getElem?_cons_zero, q3, M.retb, hz, if_true, List.set_cons_succ, List.set_cons_zero, List.cons_append, List.nil_append]
  exact (seq_nx e).trans ((seq_nx e2).trans (chkT_eq g h h1 z5))
theorem loopC (b : SM) (z5 : Sl) (hb : ∀ (k : Nat) (z4 : Sl), k < rs.length → b [.v (.tup rs), .v (.tup (ms.map D.int)), .v (.lst ((around rs).map stT)), .v (.int (k : Int)), z4, z5] = .ret (.nx [.v (.tup rs), .v (.tup (ms.map D.int)), .v (.lst ((around rs).map stT)), .v (.int (k : Int)), .v (toldD rs ms k), z5])) :
    ∀ (ds : List D) (z3 z4 : Sl), (∀ d ∈ ds, ∃ k : Nat, d = .int (k : Int) ∧ k < rs.length) → ∃ x y, forM (gN 3) b ds [.v (.tup rs), .v (.tup (ms.map D.int)), .v (.lst ((around rs).map stT)), z3, z4, z5] = .ret (.nx [.v (.tup rs), .v (.tup (ms.map D.int)), .v (.lst ((around rs).map stT)), x, y, z5])
  | [], z3, z4, _ => ⟨z3, z4, rfl⟩
  | d :: ds, z3, z4, h => by
    obtain ⟨k, rfl, hk⟩ := h d (by simp)
    obtain ⟨x, y, e⟩ := loopC b z5 hb ds (.v (.int (k : Int))) (.v (toldD rs ms k)) fun d hd => h d (List.mem_cons_of_mem _ hd)
    refine ⟨x, y, ?_⟩
    show (b [.v (.tup rs), .v (.tup (ms.map D.int)), .v (.lst ((around rs).map stT)), .v (.int (k : Int)), z4, z5] >>= _) = _
    rw [hb k z4 hk]
    exact (M.ret_bind _ _).trans e
def ltD (n : Nat) : D → Bool
  | .int c => decide (c < (n : Int))
  | _ => false
theorem is_right_eq (g : Pg rs) (h : Cs rs.length ms) : M__law_is_right [.tup rs, .tup (ms.map D.int)] = .ret (.bl true) := by
  obtain ⟨x0, es⟩ := stand_eq g
  have hb : b__law_is_right = (sSeq (sSet 2 (eBin idxM (eF 1 M__law_stand (aCons (eVar 0) aNil)) (eC (.int 0)))) (sSeq (sFor (iR1 (aCons (eCL (L1 lenM) (aCons (eVar 0) aNil)) aNil)) (gN 3) bodA) (sSeq (sFor (iAny (eN (nComp [5] (iAny (eTup (aCons (eC (.int 0)) aNil))) (gN 5) (tV (eBin ltM (eVar 5) (eCL (L1 lenM) (aCons (eVar 0) aNil)))) (eVar 5)))) (gN 3) bodB) (sRet (eC (.bl true)))))) := rfl
  have e1 : (sSet 2 (eBin idxM (eF 1 M__law_stand (aCons (eVar 0) aNil)) (eC (.int 0)))) [.v (.tup rs), .v (.tup (ms.map D.int)), .no, .no, .no, .no] = .ret (.nx [.v (.tup rs), .v (.tup (ms.map D.int)), .v (.lst ((around rs).map stT)), .no, .no, .no]) := by
    simp only [runB, startE, sSeq, sIf, sRet, sSet, sPar, sNil, sDrop, eBin, eUn, eC, eVar, eAnd, eOr, eNot, notD, eF, eCL, L1, L1N, nCL, aCons, aNil, eTup, nLst, eN, tV, tTru, asB, tru, tOrM, tAndM, tNotM, eIf, eSl, pSome, pNo, nUn, M.retb, List.map_cons, List.map_nil, List.length_cons, List.length_nil, List.replicate, List.cons_append, List.nil_append, List.getElem?_cons_zero, List.getElem?_cons_succ, List.set_cons_zero, List.set_cons_succ, M.bind_assoc, if_true, zl, Nat.reduceAdd, Nat.reduceLeDiff, iAny, itM, iR1, iR2, iEnumM, sOwn, sFrz, sFrzD, sSetL, sAug, addA, subA, eFd, eFp, lV, lO, lNil, lD0, sPar2, sPar3, sAsg, es, ix0]
  obtain ⟨x, y, e2⟩ := loopC (rs := rs) (ms := ms) bodA .no (fun k z4 hk => bodA_eq g h hk z4 .no) (rangeD 0 rs.length) .no .no (fun d hd => by
    obtain ⟨i, hi, rfl⟩ := List.mem_map.mp hd
    exact ⟨i, by rw [Int.zero_add], List.mem_range.mp hi⟩)
  have e3 := (for_len (rs := rs) g.len (gN 3) bodA [.v (.tup (ms.map D.int)), .v (.lst ((around rs).map stT)), .no, .no, .no]).trans e2
  have c1 : nComp [5] (iAny (eTup (aCons (eC (.int 0)) aNil))) (gN 5) (tV (eBin ltM (eVar 5) (eCL (L1 lenM) (aCons (eVar 0) aNil)))) (eVar 5) [.v (.tup rs), .v (.tup (ms.map D.int)), .v (.lst ((around rs).map stT)), x, y, .no] = .ret (([D.int 0].filter (ltD rs.length)).map id) := by
    refine nComp_pure _ _ ?_ (by simp; exact sz1000 (by decide)) fun d hd => ?_
    · simp only [runB, startE, sSeq, sIf, sRet, sSet, sPar, sNil, sDrop, eBin, eUn, eC, eVar, eAnd, eOr, eNot, notD, eF, eCL, L1, L1N, nCL, aCons, aNil, eTup, nLst, eN, tV, tTru, asB, tru, tOrM, tAndM, tNotM, eIf, eSl, pSome, pNo, nUn, M.retb, List.map_cons, List.map_nil, List.length_cons, List.length_nil, List.replicate, List.cons_append, List.nil_append, List.getElem?_cons_zero, List.getElem?_cons_succ, List.set_cons_zero, List.set_cons_succ, M.bind_assoc, if_true, zl, Nat.reduceAdd, Nat.reduceLeDiff, iAny, itM, iR1, iR2, iEnumM, sOwn, sFrz, sFrzD, sSetL, sAug, addA, subA, eFd, eFp, lV, lO, lNil, lD0, sPar2, sPar3, sAsg]
    · have hd : d = .int 0 := by simpa using hd
      subst hd
      exact ⟨_, rfl, rfl, fun _ => rfl⟩
  obtain ⟨x2, y2, e4⟩ := loopC (rs := rs) (ms := ms) bodB .no (fun k z4 hk => bodB_eq g h hk z4 .no) ([D.int 0].filter (ltD rs.length)) x y (fun d hd => by
    obtain ⟨h1, h2⟩ := List.mem_filter.mp hd
    have h1 : d = .int 0 := by simpa using h1
    subst h1
    have h2 : (0 : Int) < (rs.length : Int) := by simpa [ltD] using h2
    exact ⟨0, rfl, by omega⟩)
  rw [List.map_id] at c1
  have e5 : (sFor (iAny (eN (nComp [5] (iAny (eTup (aCons (eC (.int 0)) aNil))) (gN 5) (tV (eBin ltM (eVar 5) (eCL (L1 lenM) (aCons (eVar 0) aNil)))) (eVar 5)))) (gN 3) bodB) [.v (.tup rs), .v (.tup (ms.map D.int)), .v (.lst ((around rs).map stT)), x, y, .no] = .ret (.nx [.v (.tup rs), .v (.tup (ms.map D.int)), .v (.lst ((around rs).map stT)), x2, y2, .no]) := by
    have q : (iAny (eN (nComp [5] (iAny (eTup (aCons (eC (.int 0)) aNil))) (gN 5) (tV (eBin ltM (eVar 5) (eCL (L1 lenM) (aCons (eVar 0) aNil)))) (eVar 5)))) [.v (.tup rs), .v (.tup (ms.map D.int)), .v (.lst ((around rs).map stT)), x, y, .no] = .ret ([D.int 0].filter (ltD rs.length)) := by
      simp only [iAny, eN, c1, M.retb, itM]
    unfold sFor
    rw [q]
    exact (M.ret_bind _ _).trans e4
  unfold M__law_is_right
  refine run_rt ?_
  rw [hb]
  refine (seq_nx e1).trans ((seq_nx e3).trans ((seq_nx e5).trans rfl))
end G
namespace G
open PySem PySem.Spec PyProof.Rows L2 F
/-! ## what is drawn -/
theorem zlt {n : Nat} (h : n ≤ 1000) : (n < sizeLine) = True := eq_true (by rw [sizeLine_eq]; omega)
theorem Gen.bindD {β : Type} {n : Int} {f : D → M β} {Q : β → Prop} (h0 : 0 < n) (h1 : n < 1073741824) (h : ∀ i, 0 ≤ i → i < n → Gen (f (.int i)) Q) : Gen (M__law_draw [.obj 0, .int n] >>= f) Q :=
  Gen.bind (gen_draw n h0 h1) fun d ⟨i, e, a, b⟩ => by subst e; exact h i a b
theorem Gen.of {α : Type} {m : M α} {a : α} {P : α → Prop} (e : m = .ret a) (h : P a) : Gen m P := by rw [e]; exact Gen.ret h
theorem idx_mem {xs : List D} {i : Int} (h0 : 0 ≤ i) (h1 : i < xs.length) : ∃ x ∈ xs, idxM (.lst xs) (.int i) = .ret x := by
  obtain ⟨x, hx, e⟩ := at_mem h0 h1
  refine ⟨x, hx, ?_⟩
  show (match atI xs i with | some x => M.ret x | none => .bad) = _
  rw [e]
theorem gen_for {I : Nat → Ev → Prop} {gm : GM} {body : SM} : ∀ (ds : List D) (n : Nat) (ρ : Ev), I n ρ → (∀ m d ρ, d ∈ ds → m < n + ds.length → I m ρ → ∃ ρ', gm d ρ = some ρ' ∧ Gen (body ρ') fun c => ∃ ρ2, c = .nx ρ2 ∧ I (m + 1) ρ2) →
    Gen (forM gm body ds ρ) fun c => ∃ ρ', c = .nx ρ' ∧ I (n + ds.length) ρ'
  | [], n, ρ, h, _ => Gen.ret ⟨ρ, rfl, h⟩
  | d :: ds, n, ρ, h, hb => by
    obtain ⟨ρ', e, gb⟩ := hb n d ρ (by simp) (by simp) h
    have e2 : forM gm body (d :: ds) ρ = (body ρ' >>= fun c => match c with
      | .nx ρ2 => forM gm body ds ρ2
      | .ct ρ2 => forM gm body ds ρ2
      | .bk ρ2 => .ret (.nx ρ2)
      | .rt d => .ret (.rt d)) := by
      show (match gm d ρ with | some ρ' => _ | none => _) = _
      rw [e]
      all_goals rfl
    rw [e2]
    refine Gen.bind gb fun c ⟨ρ2, ec, i2⟩ => ?_
    subst ec
    refine (gen_for ds (n + 1) ρ2 i2 fun m d ρ hd hm hi => hb m d ρ (List.mem_cons_of_mem _ hd) (by simp; omega) hi).mono fun c ⟨ρ3, ec, i3⟩ => ⟨ρ3, ec, ?_⟩
    rw [show n + 1 + ds.length = n + (d :: ds).length by simp; omega] at i3
    exact i3
def okR (r : D) : Bool := D.ok r && (decide (r.dep ≤ 4) && (rowB r && decide (D.w r ≤ 300)))
theorem okR_row {r : D} (h : okR r = true) : Row r := by
  simp only [okR, Bool.and_eq_true, decide_eq_true_eq] at h
  exact ⟨⟨h.1, by omega⟩, h.2.2.1, h.2.2.2, h.2.1⟩
abbrev S (s : Str) : D := .str s
def menus : List (List D × List D) := [([S "x", S "y"], [S "a", S "b", S "c"]), ([S "let", S "end"], [S "num", S "text", S "x"]), ([S "abcdefgh", S "a"], [S "a", S "zzzzzzzz", S "fun"])]
def menuB (m : List D × List D) : Bool := m.1.all (fun x => m.2.all fun kd => okR (.tup [S "let", x, kd]) && okR (.tup [S "use", x, kd])) && (m.2.all fun kd => okR (.tup [S "give", kd]) && okR (.tup [S "open", .tup [S "fun", kd]]))
theorem menus_ok : menus.all menuB = true := by decide +kernel
theorem row_stop : Row (.tup [S "stop"]) := okR_row (by decide +kernel)
theorem row_end : Row (.tup [S "end"]) := okR_row (by decide +kernel)
theorem row_give0 : Row (.tup [S "give", S ""]) := okR_row (by decide +kernel)
theorem row_if : Row (.tup [S "open", S "if"]) := okR_row (by decide +kernel)
theorem row_loop : Row (.tup [S "open", S "loop"]) := okR_row (by decide +kernel)
theorem row_fun0 : Row (.tup [S "open", .tup [S "fun", S ""]]) := okR_row (by decide +kernel)
structure Menu (ns ks : List D) : Prop where
  n : ∃ a b, ns = [a, b]
  k : ∃ a b c, ks = [a, b, c]
  lt : ∀ x ∈ ns, ∀ kd ∈ ks, Row (.tup [S "let", x, kd])
  us : ∀ x ∈ ns, ∀ kd ∈ ks, Row (.tup [S "use", x, kd])
  gv : ∀ kd ∈ ks, Row (.tup [S "give", kd])
  fn : ∀ kd ∈ ks, Row (.tup [S "open", .tup [S "fun", kd]])
theorem menu_of {m : List D × List D} (h : m ∈ menus) : Menu m.1 m.2 := by
  have hb := List.all_eq_true.mp menus_ok m h
  simp only [menuB, Bool.and_eq_true, List.all_eq_true] at hb
  refine ⟨?_, ?_, fun x hx kd hk => okR_row (hb.1 x hx kd hk).1, fun x hx kd hk => okR_row (hb.1 x hx kd hk).2, fun kd hk => okR_row (hb.2 kd hk).1, fun kd hk => okR_row (hb.2 kd hk).2⟩
  · simp only [menus, List.mem_cons, List.not_mem_nil, or_false] at h
    rcases h with e | e | e <;> subst e <;> exact ⟨_, _, rfl⟩
  · simp only [menus, List.mem_cons, List.not_mem_nil, or_false] at h
    rcases h with e | e | e <;> subst e <;> exact ⟨_, _, _, rfl⟩
theorem gen_menu : Gen (M__law_menu [.obj 0]) fun d => ∃ ns ks, d = .tup [.lst ns, .lst ks] ∧ Menu ns ks := by
  unfold M__law_menu b__law_menu
  simp only [runB, startE, sSeq, sIf, sRet, sSet, sPar, sNil, sDrop, eBin, eUn, eC, eVar, eAnd, eOr, eNot, notD, eF, eCL, L1, L1N, nCL, aCons, aNil, eTup, nLst, eN, tV, tTru, asB, tru, tOrM, tAndM, tNotM, eIf, eSl, pSome, pNo, nUn, M.retb, List.map_cons, List.map_nil, List.length_cons, List.length_nil, List.replicate, List.cons_append, List.nil_append, List.getElem?_cons_zero, List.getElem?_cons_succ, List.set_cons_zero, List.set_cons_succ, M.bind_assoc, if_true, zl, Nat.reduceAdd, Nat.reduceLeDiff, iAny, itM, iR1, iR2, iEnumM, sOwn, sFrz, sFrzD, sSetL, sAug, addA, subA, eFd, eFp, lV, lO, lNil, lD0, sPar2, sPar3, sAsg, sApp, zlt, len_l]
  refine Gen.bindD (by decide) (by decide) fun i i0 i1 => ?_
  obtain ⟨x, hx, e⟩ := idx_mem (xs := [D.tup [.lst [S "x", S "y"], .lst [S "a", S "b", S "c"]], .tup [.lst [S "let", S "end"], .lst [S "num", S "text", S "x"]], .tup [.lst [S "abcdefgh", S "a"], .lst [S "a", S "zzzzzzzz", S "fun"]]]) i0 (by simpa using i1)
  simp only [runB, startE, sSeq, sIf, sRet, sSet, sPar, sNil, sDrop, eBin, eUn, eC, eVar, eAnd, eOr, eNot, notD, eF, eCL, L1, L1N, nCL, aCons, aNil, eTup, nLst, eN, tV, tTru, asB, tru, tOrM, tAndM, tNotM, eIf, eSl, pSome, pNo, nUn, M.retb, List.map_cons, List.map_nil, List.length_cons, List.length_nil, List.replicate, List.cons_append, List.nil_append, List.getElem?_cons_zero, List.getElem?_cons_succ, List.set_cons_zero, List.set_cons_succ, M.bind_assoc, if_true, zl, Nat.reduceAdd, Nat.reduceLeDiff, iAny, itM, iR1, iR2, iEnumM, sOwn, sFrz, sFrzD, sSetL, sAug, addA, subA, eFd, eFp, lV, lO, lNil, lD0, sPar2, sPar3, sAsg, e]
  refine Gen.ret ?_
  simp only [List.mem_cons, List.not_mem_nil, or_false] at hx
  rcases hx with hx | hx | hx
  · exact ⟨_, _, hx, menu_of (m := ([S "x", S "y"], [S "a", S "b", S "c"])) (by simp [menus])⟩
  · exact ⟨_, _, hx, menu_of (m := ([S "let", S "end"], [S "num", S "text", S "x"])) (by simp [menus])⟩
  · exact ⟨_, _, hx, menu_of (m := ([S "abcdefgh", S "a"], [S "a", S "zzzzzzzz", S "fun"])) (by simp [menus])⟩
theorem gen_sort {ns ks : List D} (m : Menu ns ks) : Gen (M__law_sort [.obj 0, .lst ks]) fun d => Row (.tup [S "open", d]) := by
  obtain ⟨a, b, c, rfl⟩ := m.k
  have hn : nComp [2] (iR1 (aCons (eC (.int 2)) aNil)) (gN 2) tYesM (eTup (aCons (eC (.str "fun")) (aCons (eBin idxM (eVar 1) (eVar 2)) aNil))) [.v (.obj 0), .v (.lst [a, b, c]), .no] = .ret [.tup [S "fun", a], .tup [S "fun", b]] := rfl
  have a1 : addM (.lst [S "if", S "loop"]) (.lst [.tup [S "fun", a], .tup [S "fun", b]]) = .ret (.lst [S "if", S "loop", .tup [S "fun", a], .tup [S "fun", b]]) := add_l _ _ (by simp)
  have a2 : addM (.lst [S "if", S "loop", .tup [S "fun", a], .tup [S "fun", b]]) (.lst [.tup [S "fun", S ""]]) = .ret (.lst [S "if", S "loop", .tup [S "fun", a], .tup [S "fun", b], .tup [S "fun", S ""]]) := add_l _ _ (by simp)
  unfold M__law_sort b__law_sort
  simp only [runB, startE, sSeq, sIf, sRet, sSet, sPar, sNil, sDrop, eBin, eUn, eC, eVar, eAnd, eOr, eNot, notD, eF, eCL, L1, L1N, nCL, aCons, aNil, eTup, nLst, eN, tV, tTru, asB, tru, tOrM, tAndM, tNotM, eIf, eSl, pSome, pNo, nUn, M.retb, List.map_cons, List.map_nil, List.length_cons, List.length_nil, List.replicate, List.cons_append, List.nil_append, List.getElem?_cons_zero, List.getElem?_cons_succ, List.set_cons_zero, List.set_cons_succ, M.bind_assoc, if_true, zl, Nat.reduceAdd, Nat.reduceLeDiff, iAny, itM, iR1, iR2, iEnumM, sOwn, sFrz, sFrzD, sSetL, sAug, addA, subA, eFd, eFp, lV, lO, lNil, lD0, sPar2, sPar3, sAsg, hn, a1, a2]
  refine Gen.bindD (by decide) (by decide) fun i i0 i1 => ?_
  obtain ⟨x, hx, e⟩ := idx_mem (xs := [S "if", S "loop", .tup [S "fun", a], .tup [S "fun", b], .tup [S "fun", S ""]]) i0 (by simpa using i1)
  simp only [runB, startE, sSeq, sIf, sRet, sSet, sPar, sNil, sDrop, eBin, eUn, eC, eVar, eAnd, eOr, eNot, notD, eF, eCL, L1, L1N, nCL, aCons, aNil, eTup, nLst, eN, tV, tTru, asB, tru, tOrM, tAndM, tNotM, eIf, eSl, pSome, pNo, nUn, M.retb, List.map_cons, List.map_nil, List.length_cons, List.length_nil, List.replicate, List.cons_append, List.nil_append, List.getElem?_cons_zero, List.getElem?_cons_succ, List.set_cons_zero, List.set_cons_succ, M.bind_assoc, if_true, zl, Nat.reduceAdd, Nat.reduceLeDiff, iAny, itM, iR1, iR2, iEnumM, sOwn, sFrz, sFrzD, sSetL, sAug, addA, subA, eFd, eFp, lV, lO, lNil, lD0, sPar2, sPar3, sAsg, e]
  refine Gen.ret ?_
  simp only [List.mem_cons, List.not_mem_nil, or_false] at hx
  rcases hx with hx | hx | hx | hx | hx
  · rw [hx]; exact row_if
  · rw [hx]; exact row_loop
  · rw [hx]; exact m.fn a (by simp)
  · rw [hx]; exact m.fn b (by simp)
  · rw [hx]; exact row_fun0
theorem gen_item {ns ks : List D} (m : Menu ns ks) {t : Int} (t0 : 0 ≤ t) (t1 : t < 3) : Gen (M__law_item [.obj 0, .lst ns, .lst ks, .int t]) Row := by
  unfold M__law_item b__law_item
  simp only [runB, startE, sSeq, sIf, sRet, sSet, sPar, sNil, sDrop, eBin, eUn, eC, eVar, eAnd, eOr, eNot, notD, eF, eCL, L1, L1N, nCL, aCons, aNil, eTup, nLst, eN, tV, tTru, asB, tru, tOrM, tAndM, tNotM, eIf, eSl, pSome, pNo, nUn, M.retb, List.map_cons, List.map_nil, List.length_cons, List.length_nil, List.replicate, List.cons_append, List.nil_append, List.getElem?_cons_zero, List.getElem?_cons_succ, List.set_cons_zero, List.set_cons_succ, M.bind_assoc, if_true, zl, Nat.reduceAdd, Nat.reduceLeDiff, iAny, itM, iR1, iR2, iEnumM, sOwn, sFrz, sFrzD, sSetL, sAug, addA, subA, eFd, eFp, lV, lO, lNil, lD0, sPar2, sPar3, sAsg]
  refine Gen.bindD (by decide) (by decide) fun i i0 i1 => ?_
  obtain ⟨bb, hbb, hb0, hb1⟩ : ∃ j : Int, intM (.bl (i == 0)) = .ret (.int j) ∧ 0 ≤ j ∧ j < 2 := by
    cases (i == 0) with
    | true => exact ⟨1, rfl, by decide, by decide⟩
    | false => exact ⟨0, rfl, by decide, by decide⟩
  obtain ⟨x, hx, ex⟩ := idx_mem (xs := ns) hb0 (by obtain ⟨a, b, e⟩ := m.n; rw [e]; exact hb1)
  simp only [runB, startE, sSeq, sIf, sRet, sSet, sPar, sNil, sDrop, eBin, eUn, eC, eVar, eAnd, eOr, eNot, notD, eF, eCL, L1, L1N, nCL, aCons, aNil, eTup, nLst, eN, tV, tTru, asB, tru, tOrM, tAndM, tNotM, eIf, eSl, pSome, pNo, nUn, M.retb, List.map_cons, List.map_nil, List.length_cons, List.length_nil, List.replicate, List.cons_append, List.nil_append, List.getElem?_cons_zero, List.getElem?_cons_succ, List.set_cons_zero, List.set_cons_succ, M.bind_assoc, if_true, zl, Nat.reduceAdd, Nat.reduceLeDiff, iAny, itM, iR1, iR2, iEnumM, sOwn, sFrz, sFrzD, sSetL, sAug, addA, subA, eFd, eFp, lV, lO, lNil, lD0, sPar2, sPar3, sAsg, eq_i, hbb, ex]
  refine Gen.bindD (by decide) (by decide) fun j j0 j1 => ?_
  obtain ⟨kd, hk, ek⟩ := idx_mem (xs := ks) j0 (by obtain ⟨a, b, c, e⟩ := m.k; rw [e]; exact j1)
  obtain ⟨k0, hk0, ek0⟩ := idx_mem (xs := ks) (i := 0) (by decide) (by obtain ⟨a, b, c, e⟩ := m.k; rw [e]; simp)
  have ha : addM (.lst [D.tup [S "use", x, kd], .tup [S "use", x, kd], .tup [S "let", x, kd], .tup [S "let", x, kd], .tup [S "use", x, k0]]) (.lst [.tup [S "give", kd], .tup [S "give", kd], .tup [S "stop"], .tup [S "stop"], .tup [S "give", S ""]])
      = .ret (.lst [D.tup [S "use", x, kd], .tup [S "use", x, kd], .tup [S "let", x, kd], .tup [S "let", x, kd], .tup [S "use", x, k0], .tup [S "give", kd], .tup [S "give", kd], .tup [S "stop"], .tup [S "stop"], .tup [S "give", S ""]]) := add_l _ _ (by simp)
  have r1 := m.us x hx kd hk
  have r2 := m.lt x hx kd hk
  have r3 := m.us x hx k0 hk0
  have r4 := m.gv kd hk
  have all : ∀ y ∈ [D.tup [S "use", x, kd], .tup [S "use", x, kd], .tup [S "let", x, kd], .tup [S "let", x, kd], .tup [S "use", x, k0], .tup [S "give", kd], .tup [S "give", kd], .tup [S "stop"], .tup [S "stop"], .tup [S "give", S ""]], Row y := by
    intro y hy
    simp only [List.mem_cons, List.not_mem_nil, or_false] at hy
    rcases hy with e | e | e | e | e | e | e | e | e | e
    · rw [e]; exact r1
    · rw [e]; exact r1
    · rw [e]; exact r2
    · rw [e]; exact r2
    · rw [e]; exact r3
    · rw [e]; exact r4
    · rw [e]; exact r4
    · rw [e]; exact row_stop
    · rw [e]; exact row_stop
    · rw [e]; exact row_give0
  obtain ⟨L, eL, hL, l0, l1⟩ : ∃ L : List D, idxM (.lst [.lst [D.tup [S "use", x, kd], .tup [S "use", x, kd], .tup [S "let", x, kd], .tup [S "let", x, kd], .tup [S "use", x, k0]], .lst [.tup [S "give", kd], .tup [S "give", kd], .tup [S "stop"], .tup [S "stop"], .tup [S "give", S ""]], .lst [D.tup [S "use", x, kd], .tup [S "use", x, kd], .tup [S "let", x, kd], .tup [S "let", x, kd], .tup [S "use", x, k0], .tup [S "give", kd], .tup [S "give", kd], .tup [S "stop"], .tup [S "stop"], .tup [S "give", S ""]]]) (.int t) = .ret (.lst L) ∧ (∀ y ∈ L, Row y) ∧ 0 < L.length ∧ L.length ≤ 10 := by
    have ht : t = 0 ∨ t = 1 ∨ t = 2 := by omega
    rcases ht with e | e | e
    · subst e; exact ⟨_, rfl, fun y hy => all y (by simp only [List.mem_cons, List.not_mem_nil, or_false] at hy ⊢; rcases hy with e | e | e | e | e <;> simp [e]), by simp, by simp⟩
    · subst e; exact ⟨_, rfl, fun y hy => all y (by simp only [List.mem_cons, List.not_mem_nil, or_false] at hy ⊢; rcases hy with e | e | e | e | e <;> simp [e]), by simp, by simp⟩
    · subst e; exact ⟨_, rfl, all, by simp, by simp⟩
  simp only [runB, startE, sSeq, sIf, sRet, sSet, sPar, sNil, sDrop, eBin, eUn, eC, eVar, eAnd, eOr, eNot, notD, eF, eCL, L1, L1N, nCL, aCons, aNil, eTup, nLst, eN, tV, tTru, asB, tru, tOrM, tAndM, tNotM, eIf, eSl, pSome, pNo, nUn, M.retb, List.map_cons, List.map_nil, List.length_cons, List.length_nil, List.replicate, List.cons_append, List.nil_append, List.getElem?_cons_zero, List.getElem?_cons_succ, List.set_cons_zero, List.set_cons_succ, M.bind_assoc, if_true, zl, Nat.reduceAdd, Nat.reduceLeDiff, iAny, itM, iR1, iR2, iEnumM, sOwn, sFrz, sFrzD, sSetL, sAug, addA, subA, eFd, eFp, lV, lO, lNil, lD0, sPar2, sPar3, sAsg, ek, ek0, sApp, zlt, ha, eL, len_l]
  refine Gen.bindD (by omega) (by omega) fun q q0 q1 => ?_
  obtain ⟨y, hy, ey⟩ := idx_mem (xs := L) q0 q1
  simp only [runB, startE, sSeq, sIf, sRet, sSet, sPar, sNil, sDrop, eBin, eUn, eC, eVar, eAnd, eOr, eNot, notD, eF, eCL, L1, L1N, nCL, aCons, aNil, eTup, nLst, eN, tV, tTru, asB, tru, tOrM, tAndM, tNotM, eIf, eSl, pSome, pNo, nUn, M.retb, List.map_cons, List.map_nil, List.length_cons, List.length_nil, List.replicate, List.cons_append, List.nil_append, List.getElem?_cons_zero, List.getElem?_cons_succ, List.set_cons_zero, List.set_cons_succ, M.bind_assoc, if_true, zl, Nat.reduceAdd, Nat.reduceLeDiff, iAny, itM, iR1, iR2, iEnumM, sOwn, sFrz, sFrzD, sSetL, sAug, addA, subA, eFd, eFp, lV, lO, lNil, lD0, sPar2, sPar3, sAsg, ey]
  exact Gen.ret (hL y hy)
end G
namespace G
open PySem PySem.Spec PyProof.Rows L2 F
theorem Gen.seq {a b : SM} {ρ : Ev} {P : Ev → Prop} {Q : Ctl → Prop} (ha : Gen (a ρ) fun c => ∃ ρ', c = .nx ρ' ∧ P ρ') (hb : ∀ ρ', P ρ' → Gen (b ρ') Q) : Gen (sSeq a b ρ) Q := by
  unfold sSeq
  refine Gen.bind ha fun c ⟨ρ', e, h⟩ => ?_
  subst e
  exact hb ρ' h
theorem gen_it {n : Int} {l : List Sl} (h0 : 0 < n) (h1 : n ≤ 1000) : Gen (iR1 (aCons (eF 2 M__law_draw (aCons (eVar 0) (aCons (eC (.int n)) aNil))) aNil) (.v (.obj 0) :: l)) fun ds => ∃ i : Int, ds = rangeD 0 i.toNat ∧ 0 ≤ i ∧ i < n := by
  simp only [runB, startE, sSeq, sIf, sRet, sSet, sPar, sNil, sDrop, eBin, eUn, eC, eVar, eAnd, eOr, eNot, notD, eF, eCL, L1, L1N, nCL, aCons, aNil, eTup, nLst, eN, tV, tTru, asB, tru, tOrM, tAndM, tNotM, eIf, eSl, pSome, pNo, nUn, M.retb, List.map_cons, List.map_nil, List.length_cons, List.length_nil, List.replicate, List.cons_append, List.nil_append, List.getElem?_cons_zero, List.getElem?_cons_succ, List.set_cons_zero, List.set_cons_succ, M.bind_assoc, if_true, zl, Nat.reduceAdd, Nat.reduceLeDiff, iAny, itM, iR1, iR2, iEnumM, sOwn, sFrz, sFrzD, sSetL, sAug, addA, subA, eFd, eFp, lV, lO, lNil, lD0, sPar2, sPar3, sAsg]
  refine Gen.bindD h0 (by omega) fun i i0 i1 => ?_
  exact Gen.of (rng1_i i i0 (by omega)) ⟨i, rfl, i0, i1⟩
theorem gen_it1 {n : Int} {l : List Sl} (h0 : 0 < n) (h1 : n ≤ 900) : Gen (iR1 (aCons (eBin addM (eC (.int 1)) (eF 2 M__law_draw (aCons (eVar 0) (aCons (eC (.int n)) aNil)))) aNil) (.v (.obj 0) :: l)) fun ds => ∃ i : Int, ds = rangeD 0 i.toNat ∧ 0 ≤ i ∧ i ≤ n := by
  simp only [runB, startE, sSeq, sIf, sRet, sSet, sPar, sNil, sDrop, eBin, eUn, eC, eVar, eAnd, eOr, eNot, notD, eF, eCL, L1, L1N, nCL, aCons, aNil, eTup, nLst, eN, tV, tTru, asB, tru, tOrM, tAndM, tNotM, eIf, eSl, pSome, pNo, nUn, M.retb, List.map_cons, List.map_nil, List.length_cons, List.length_nil, List.replicate, List.cons_append, List.nil_append, List.getElem?_cons_zero, List.getElem?_cons_succ, List.set_cons_zero, List.set_cons_succ, M.bind_assoc, if_true, zl, Nat.reduceAdd, Nat.reduceLeDiff, iAny, itM, iR1, iR2, iEnumM, sOwn, sFrz, sFrzD, sSetL, sAug, addA, subA, eFd, eFp, lV, lO, lNil, lD0, sPar2, sPar3, sAsg]
  refine Gen.bindD h0 (by omega) fun i i0 i1 => ?_
  simp only [runB, startE, sSeq, sIf, sRet, sSet, sPar, sNil, sDrop, eBin, eUn, eC, eVar, eAnd, eOr, eNot, notD, eF, eCL, L1, L1N, nCL, aCons, aNil, eTup, nLst, eN, tV, tTru, asB, tru, tOrM, tAndM, tNotM, eIf, eSl, pSome, pNo, nUn, M.retb, List.map_cons, List.map_nil, List.length_cons, List.length_nil, List.replicate, List.cons_append, List.nil_append, List.getElem?_cons_zero, List.getElem?_cons_succ, List.set_cons_zero, List.set_cons_succ, M.bind_assoc, if_true, zl, Nat.reduceAdd, Nat.reduceLeDiff, iAny, itM, iR1, iR2, iEnumM, sOwn, sFrz, sFrzD, sSetL, sAug, addA, subA, eFd, eFp, lV, lO, lNil, lD0, sPar2, sPar3, sAsg, add_i]
  exact Gen.of (rng1_i (1 + i) (by omega) (by omega)) ⟨1 + i, rfl, by omega, by omega⟩
theorem gen_sFor {it : Ev → M (List D)} {gm : GM} {body : SM} {ρ : Ev} {I : Nat → Ev → Prop} {n : Int} (hi : Gen (it ρ) fun ds => ∃ i : Int, ds = rangeD 0 i.toNat ∧ 0 ≤ i ∧ i ≤ n) (h0 : I 0 ρ)
    (hm : ∀ (m m' : Nat) (ρ : Ev), m ≤ m' → I m ρ → I m' ρ)
    (hb : ∀ (m : Nat) (i : Int) (ρ : Ev), (m : Int) < n → I m ρ → ∃ ρ', gm (.int i) ρ = some ρ' ∧ Gen (body ρ') fun c => ∃ ρ2, c = .nx ρ2 ∧ I (m + 1) ρ2) : Gen (sFor it gm body ρ) fun c => ∃ ρ', c = .nx ρ' ∧ I n.toNat ρ' := by
  unfold sFor
  refine Gen.bind hi fun ds ⟨i, e, i0, i1⟩ => ?_
  subst e
  refine (gen_for (I := I) (rangeD 0 i.toNat) 0 ρ h0 fun m d ρ hd hlt hI => ?_).mono fun c ⟨ρ', e, h⟩ => ⟨ρ', e, hm _ _ _ ?_ h⟩
  · obtain ⟨j, _, rfl⟩ := List.mem_map.mp hd
    rw [rangeD_len] at hlt
    exact hb m _ ρ (by omega) hI
  · rw [rangeD_len]; omega
/-! ## pages -/
def pgE (ns ks : List D) (t : Int) (rows : List D) (z5 c z7 z8 z9 z10 : Sl) : Ev := [.v (.obj 0), .v (.lst ns), .v (.lst ks), .v (.int t), .own rows, z5, c, z7, z8, z9, z10]
theorem rows_snoc {rows : List D} {r : D} (h : ∀ x ∈ rows, Row x) (hr : Row r) : ∀ x ∈ rows ++ [r], Row x := fun x hx => by
  rcases List.mem_append.mp hx with q | q
  · exact h x q
  · have : x = r := by simpa using q
    rw [this]; exact hr
def pB1 : SM := (sSeq (sSet 8 (eIf (tV (eBin neM (eVar 3) (eC (.int 1)))) (eF 2 M__law_sort (aCons (eVar 0) (aCons (eVar 2) aNil))) (eTup (aCons (eC (.str "fun")) (aCons (eBin idxM (eBin addM (eVar 2) (eN (nLst (aCons (eC (.str "")) aNil)))) (eF 2 M__law_draw (aCons (eVar 0) (aCons (eC (.int 4)) aNil)))) aNil))))) (sSeq (sApp 4 (eTup (aCons (eC (.str "open")) (aCons (eVar 8) aNil)))) (sIf (tAndM (tV (eBin gtM (eF 2 M__law_draw (aCons (eVar 0) (aCons (eC (.int 3)) aNil))) (eC (.int 0)))) (tV (eBin neM (eVar 3) (eC (.int 1))))) (sApp 4 (eTup (aCons (eC (.str "let")) (aCons (eBin idxM (eVar 1) (eC (.int 0))) (aCons (eBin idxM (eVar 2) (eF 2 M__law_draw (aCons (eVar 0) (aCons (eC (.int 2)) aNil)))) aNil))))) sNil)))
theorem gen_pB1 {ns ks rows : List D} {t : Int} {z5 c z7 z8 z9 z10 : Sl} (m : Menu ns ks) (hr : ∀ r ∈ rows, Row r) (hl : rows.length ≤ 500) : Gen (pB1 (pgE ns ks t rows z5 c z7 z8 z9 z10)) fun cc => ∃ rows' z, cc = .nx (pgE ns ks t rows' z5 c z7 z z9 z10) ∧ (∀ r ∈ rows', Row r) ∧ rows.length ≤ rows'.length ∧ rows'.length ≤ rows.length + 2 := by
  have hz : (rows.length < sizeLine) = True := zlt (by omega)
  have rest : ∀ s : D, Row (.tup [S "open", s]) → Gen ((sSeq (sApp 4 (eTup (aCons (eC (.str "open")) (aCons (eVar 8) aNil)))) (sIf (tAndM (tV (eBin gtM (eF 2 M__law_draw (aCons (eVar 0) (aCons (eC (.int 3)) aNil))) (eC (.int 0)))) (tV (eBin neM (eVar 3) (eC (.int 1))))) (sApp 4 (eTup (aCons (eC (.str "let")) (aCons (eBin idxM (eVar 1) (eC (.int 0))) (aCons (eBin idxM (eVar 2) (eF 2 M__law_draw (aCons (eVar 0) (aCons (eC (.int 2)) aNil)))) aNil))))) sNil)) (pgE ns ks t rows z5 c z7 (.v s) z9 z10))
      fun cc => ∃ rows' z, cc = .nx (pgE ns ks t rows' z5 c z7 z z9 z10) ∧ (∀ r ∈ rows', Row r) ∧ rows.length ≤ rows'.length ∧ rows'.length ≤ rows.length + 2 := by
    intro s hs
    unfold pgE
    simp only [runB, startE, sSeq, sIf, sRet, sSet, sPar, sNil, sDrop, eBin, eUn, eC, eVar, eAnd, eOr, eNot, notD, eF, eCL, L1, L1N, nCL, aCons, aNil, eTup, nLst, eN, tV, tTru, asB, tru, tOrM, tAndM, tNotM, eIf, eSl, pSome, pNo, nUn, M.retb, List.map_cons, List.map_nil, List.length_cons, List.length_nil, List.replicate, List.cons_append, List.nil_append, List.getElem?_cons_zero, List.getElem?_cons_succ, List.set_cons_zero, List.set_cons_succ, M.bind_assoc, if_true, zl, Nat.reduceAdd, Nat.reduceLeDiff, iAny, itM, iR1, iR2, iEnumM, sOwn, sFrz, sFrzD, sSetL, sAug, addA, subA, eFd, eFp, lV, lO, lNil, lD0, sPar2, sPar3, sAsg, sApp, hz]
    refine Gen.bindD (by decide) (by decide) fun i i0 i1 => ?_
    have hl2 : (rows ++ [D.tup [.str "open", s]]).length = rows.length + 1 := by simp
    have hz2 : ((rows ++ [D.tup [.str "open", s]]).length < sizeLine) = True := zlt (by omega)
    have fin : Gen (M.ret (Ctl.nx [.v (.obj 0), .v (.lst ns), .v (.lst ks), .v (.int t), .own (rows ++ [.tup [.str "open", s]]), z5, c, z7, .v s, z9, z10])) fun cc => ∃ rows' z, cc = .nx (pgE ns ks t rows' z5 c z7 z z9 z10) ∧ (∀ r ∈ rows', Row r) ∧ rows.length ≤ rows'.length ∧ rows'.length ≤ rows.length + 2 :=
      Gen.ret ⟨_, _, rfl, rows_snoc hr hs, by omega, by omega⟩
    simp only [runB, startE, sSeq, sIf, sRet, sSet, sPar, sNil, sDrop, eBin, eUn, eC, eVar, eAnd, eOr, eNot, notD, eF, eCL, L1, L1N, nCL, aCons, aNil, eTup, nLst, eN, tV, tTru, asB, tru, tOrM, tAndM, tNotM, eIf, eSl, pSome, pNo, nUn, M.retb, List.map_cons, List.map_nil, List.length_cons, List.length_nil, List.replicate, List.cons_append, List.nil_append, List.getElem?_cons_zero, List.getElem?_cons_succ, List.set_cons_zero, List.set_cons_succ, M.bind_assoc, if_true, zl, Nat.reduceAdd, Nat.reduceLeDiff, iAny, itM, iR1, iR2, iEnumM, sOwn, sFrz, sFrzD, sSetL, sAug, addA, subA, eFd, eFp, lV, lO, lNil, lD0, sPar2, sPar3, sAsg, gt_i]
    cases decide (0 < i) with
    | false => simp only [runB, startE, sSeq, sIf, sRet, sSet, sPar, sNil, sDrop, eBin, eUn, eC, eVar, eAnd, eOr, eNot, notD, eF, eCL, L1, L1N, nCL, aCons, aNil, eTup, nLst, eN, tV, tTru, asB, tru, tOrM, tAndM, tNotM, eIf, eSl, pSome, pNo, nUn, M.retb, List.map_cons, List.map_nil, List.length_cons, List.length_nil, List.replicate, List.cons_append, List.nil_append, List.getElem?_cons_zero, List.getElem?_cons_succ, List.set_cons_zero, List.set_cons_succ, M.bind_assoc, if_true, zl, Nat.reduceAdd, Nat.reduceLeDiff, iAny, itM, iR1, iR2, iEnumM, sOwn, sFrz, sFrzD, sSetL, sAug, addA, subA, eFd, eFp, lV, lO, lNil, lD0, sPar2, sPar3, sAsg]; exact fin
    | true =>
      simp only [runB, startE, sSeq, sIf, sRet, sSet, sPar, sNil, sDrop, eBin, eUn, eC, eVar, eAnd, eOr, eNot, notD, eF, eCL, L1, L1N, nCL, aCons, aNil, eTup, nLst, eN, tV, tTru, asB, tru, tOrM, tAndM, tNotM, eIf, eSl, pSome, pNo, nUn, M.retb, List.map_cons, List.map_nil, List.length_cons, List.length_nil, List.replicate, List.cons_append, List.nil_append, List.getElem?_cons_zero, List.getElem?_cons_succ, List.set_cons_zero, List.set_cons_succ, M.bind_assoc, if_true, zl, Nat.reduceAdd, Nat.reduceLeDiff, iAny, itM, iR1, iR2, iEnumM, sOwn, sFrz, sFrzD, sSetL, sAug, addA, subA, eFd, eFp, lV, lO, lNil, lD0, sPar2, sPar3, sAsg, ne_i]
      cases (t == 1) with
      | true => simp only [runB, startE, sSeq, sIf, sRet, sSet, sPar, sNil, sDrop, eBin, eUn, eC, eVar, eAnd, eOr, eNot, notD, eF, eCL, L1, L1N, nCL, aCons, aNil, eTup, nLst, eN, tV, tTru, asB, tru, tOrM, tAndM, tNotM, eIf, eSl, pSome, pNo, nUn, M.retb, List.map_cons, List.map_nil, List.length_cons, List.length_nil, List.replicate, List.cons_append, List.nil_append, List.getElem?_cons_zero, List.getElem?_cons_succ, List.set_cons_zero, List.set_cons_succ, M.bind_assoc, if_true, zl, Nat.reduceAdd, Nat.reduceLeDiff, iAny, itM, iR1, iR2, iEnumM, sOwn, sFrz, sFrzD, sSetL, sAug, addA, subA, eFd, eFp, lV, lO, lNil, lD0, sPar2, sPar3, sAsg, Bool.not_true]; exact fin
      | false =>
        obtain ⟨x, hx, ex⟩ := idx_mem (xs := ns) (i := 0) (by decide) (by obtain ⟨a, b, e⟩ := m.n; rw [e]; simp)
        simp only [runB, startE, sSeq, sIf, sRet, sSet, sPar, sNil, sDrop, eBin, eUn, eC, eVar, eAnd, eOr, eNot, notD, eF, eCL, L1, L1N, nCL, aCons, aNil, eTup, nLst, eN, tV, tTru, asB, tru, tOrM, tAndM, tNotM, eIf, eSl, pSome, pNo, nUn, M.retb, List.map_cons, List.map_nil, List.length_cons, List.length_nil, List.replicate, List.cons_append, List.nil_append, List.getElem?_cons_zero, List.getElem?_cons_succ, List.set_cons_zero, List.set_cons_succ, M.bind_assoc, if_true, zl, Nat.reduceAdd, Nat.reduceLeDiff, iAny, itM, iR1, iR2, iEnumM, sOwn, sFrz, sFrzD, sSetL, sAug, addA, subA, eFd, eFp, lV, lO, lNil, lD0, sPar2, sPar3, sAsg, Bool.not_false, ex]
        refine Gen.bindD (by decide) (by decide) fun j j0 j1 => ?_
        obtain ⟨kd, hk, ek⟩ := idx_mem (xs := ks) j0 (by obtain ⟨a, b, c, e⟩ := m.k; rw [e]; simp only [List.length_cons, List.length_nil]; omega)
        simp only [runB, startE, sSeq, sIf, sRet, sSet, sPar, sNil, sDrop, eBin, eUn, eC, eVar, eAnd, eOr, eNot, notD, eF, eCL, L1, L1N, nCL, aCons, aNil, eTup, nLst, eN, tV, tTru, asB, tru, tOrM, tAndM, tNotM, eIf, eSl, pSome, pNo, nUn, M.retb, List.map_cons, List.map_nil, List.length_cons, List.length_nil, List.replicate, List.cons_append, List.nil_append, List.getElem?_cons_zero, List.getElem?_cons_succ, List.set_cons_zero, List.set_cons_succ, M.bind_assoc, if_true, zl, Nat.reduceAdd, Nat.reduceLeDiff, iAny, itM, iR1, iR2, iEnumM, sOwn, sFrz, sFrzD, sSetL, sAug, addA, subA, eFd, eFp, lV, lO, lNil, lD0, sPar2, sPar3, sAsg, ek, hz2]
        exact Gen.ret ⟨_, _, rfl, rows_snoc (rows_snoc hr hs) (m.lt x hx kd hk), by simp, by simp⟩
  unfold pB1
  refine Gen.seq (P := fun ρ' => ∃ s, ρ' = pgE ns ks t rows z5 c z7 (.v s) z9 z10 ∧ Row (.tup [S "open", s])) ?_ fun ρ' ⟨s, e, hs⟩ => by subst e; exact rest s hs
  unfold pgE
  simp only [runB, startE, sSeq, sIf, sRet, sSet, sPar, sNil, sDrop, eBin, eUn, eC, eVar, eAnd, eOr, eNot, notD, eF, eCL, L1, L1N, nCL, aCons, aNil, eTup, nLst, eN, tV, tTru, asB, tru, tOrM, tAndM, tNotM, eIf, eSl, pSome, pNo, nUn, M.retb, List.map_cons, List.map_nil, List.length_cons, List.length_nil, List.replicate, List.cons_append, List.nil_append, List.getElem?_cons_zero, List.getElem?_cons_succ, List.set_cons_zero, List.set_cons_succ, M.bind_assoc, if_true, zl, Nat.reduceAdd, Nat.reduceLeDiff, iAny, itM, iR1, iR2, iEnumM, sOwn, sFrz, sFrzD, sSetL, sAug, addA, subA, eFd, eFp, lV, lO, lNil, lD0, sPar2, sPar3, sAsg, ne_i]
  cases (t == 1) with
  | false =>
    simp only [runB, startE, sSeq, sIf, sRet, sSet, sPar, sNil, sDrop, eBin, eUn, eC, eVar, eAnd, eOr, eNot, notD, eF, eCL, L1, L1N, nCL, aCons, aNil, eTup, nLst, eN, tV, tTru, asB, tru, tOrM, tAndM, tNotM, eIf, eSl, pSome, pNo, nUn, M.retb, List.map_cons, List.map_nil, List.length_cons, List.length_nil, List.replicate, List.cons_append, List.nil_append, List.getElem?_cons_zero, List.getElem?_cons_succ, List.set_cons_zero, List.set_cons_succ, M.bind_assoc, if_true, zl, Nat.reduceAdd, Nat.reduceLeDiff, iAny, itM, iR1, iR2, iEnumM, sOwn, sFrz, sFrzD, sSetL, sAug, addA, subA, eFd, eFp, lV, lO, lNil, lD0, sPar2, sPar3, sAsg, Bool.not_false]
    exact Gen.bind (gen_sort m) fun s hs => Gen.ret ⟨_, rfl, s, rfl, hs⟩
  | true =>
    have ha : addM (.lst ks) (.lst [.str ""]) = .ret (.lst (ks ++ [.str ""])) := add_l _ _ (by obtain ⟨a, b, c, e⟩ := m.k; rw [e]; simp)
    simp only [runB, startE, sSeq, sIf, sRet, sSet, sPar, sNil, sDrop, eBin, eUn, eC, eVar, eAnd, eOr, eNot, notD, eF, eCL, L1, L1N, nCL, aCons, aNil, eTup, nLst, eN, tV, tTru, asB, tru, tOrM, tAndM, tNotM, eIf, eSl, pSome, pNo, nUn, M.retb, List.map_cons, List.map_nil, List.length_cons, List.length_nil, List.replicate, List.cons_append, List.nil_append, List.getElem?_cons_zero, List.getElem?_cons_succ, List.set_cons_zero, List.set_cons_succ, M.bind_assoc, if_true, zl, Nat.reduceAdd, Nat.reduceLeDiff, iAny, itM, iR1, iR2, iEnumM, sOwn, sFrz, sFrzD, sSetL, sAug, addA, subA, eFd, eFp, lV, lO, lNil, lD0, sPar2, sPar3, sAsg, Bool.not_true, ha]
    refine Gen.bindD (by decide) (by decide) fun j j0 j1 => ?_
    obtain ⟨x, hx, ex⟩ := idx_mem (xs := ks ++ [.str ""]) j0 (by obtain ⟨a, b, c, e⟩ := m.k; rw [e]; simp; omega)
    simp only [runB, startE, sSeq, sIf, sRet, sSet, sPar, sNil, sDrop, eBin, eUn, eC, eVar, eAnd, eOr, eNot, notD, eF, eCL, L1, L1N, nCL, aCons, aNil, eTup, nLst, eN, tV, tTru, asB, tru, tOrM, tAndM, tNotM, eIf, eSl, pSome, pNo, nUn, M.retb, List.map_cons, List.map_nil, List.length_cons, List.length_nil, List.replicate, List.cons_append, List.nil_append, List.getElem?_cons_zero, List.getElem?_cons_succ, List.set_cons_zero, List.set_cons_succ, M.bind_assoc, if_true, zl, Nat.reduceAdd, Nat.reduceLeDiff, iAny, itM, iR1, iR2, iEnumM, sOwn, sFrz, sFrzD, sSetL, sAug, addA, subA, eFd, eFp, lV, lO, lNil, lD0, sPar2, sPar3, sAsg, ex]
    refine Gen.ret ⟨_, rfl, _, rfl, ?_⟩
    rcases List.mem_append.mp hx with q | q
    · exact m.fn x q
    · have : x = .str "" := by simpa using q
      rw [this]; exact row_fun0
def pB3 : SM := (sSeq (sPar 9 10 (aCons (eF 4 M__law_item (aCons (eVar 0) (aCons (eVar 1) (aCons (eVar 2) (aCons (eVar 3) aNil))))) (aCons (eF 2 M__law_draw (aCons (eVar 0) (aCons (eC (.int 8)) aNil))) aNil))) (sSeq (sIf (tV (eBin eqM (eVar 10) (eC (.int 0)))) (sApp 4 (eTup (aCons (eC (.str "open")) (aCons (eF 2 M__law_sort (aCons (eVar 0) (aCons (eVar 2) aNil))) aNil)))) sNil) (sSeq (sApp 4 (eVar 9)) (sIf (tV (eBin eqM (eVar 10) (eC (.int 0)))) (sApp 4 (eTup (aCons (eC (.str "end")) aNil))) sNil))))
theorem gen_pB3 {ns ks rows : List D} {t : Int} {z5 c z7 z8 z9 z10 : Sl} (m : Menu ns ks) (t0 : 0 ≤ t) (t1 : t < 3) (hr : ∀ r ∈ rows, Row r) (hl : rows.length ≤ 500) : Gen (pB3 (pgE ns ks t rows z5 c z7 z8 z9 z10)) fun cc => ∃ rows' y z, cc = .nx (pgE ns ks t rows' z5 c z7 z8 y z) ∧ (∀ r ∈ rows', Row r) ∧ rows.length ≤ rows'.length ∧ rows'.length ≤ rows.length + 3 := by
  have hz : (rows.length < sizeLine) = True := zlt (by omega)
  unfold pB3 pgE
  try simp only [runB, startE, sSeq, sIf, sRet, sSet, sPar, sNil, sDrop, eBin, eUn, eC, eVar, eAnd, eOr, eNot, notD, eF, eCL, L1, L1N, nCL, aCons, aNil, eTup, nLst, eN, tV, tTru, asB, tru, tOrM, tAndM, tNotM, eIf, eSl, pSome, pNo, nUn, M.retb, List.map_cons, List.map_nil, List.length_cons, List.length_nil, List.replicate, List.cons_append, List.nil_append, List.getElem?_cons_zero, List.getElem?_cons_succ, List.set_cons_zero, List.set_cons_succ, M.bind_assoc, if_true, zl, Nat.reduceAdd, Nat.reduceLeDiff, iAny, itM, iR1, iR2, iEnumM, sOwn, sFrz, sFrzD, sSetL, sAug, addA, subA, eFd, eFp, lV, lO, lNil, lD0, sPar2, sPar3, sAsg]
  refine Gen.bind (gen_item m t0 t1) fun x hx => ?_
  try simp only [runB, startE, sSeq, sIf, sRet, sSet, sPar, sNil, sDrop, eBin, eUn, eC, eVar, eAnd, eOr, eNot, notD, eF, eCL, L1, L1N, nCL, aCons, aNil, eTup, nLst, eN, tV, tTru, asB, tru, tOrM, tAndM, tNotM, eIf, eSl, pSome, pNo, nUn, M.retb, List.map_cons, List.map_nil, List.length_cons, List.length_nil, List.replicate, List.cons_append, List.nil_append, List.getElem?_cons_zero, List.getElem?_cons_succ, List.set_cons_zero, List.set_cons_succ, M.bind_assoc, if_true, zl, Nat.reduceAdd, Nat.reduceLeDiff, iAny, itM, iR1, iR2, iEnumM, sOwn, sFrz, sFrzD, sSetL, sAug, addA, subA, eFd, eFp, lV, lO, lNil, lD0, sPar2, sPar3, sAsg]
  refine Gen.bindD (by decide) (by decide) fun i i0 i1 => ?_
  simp only [runB, startE, sSeq, sIf, sRet, sSet, sPar, sNil, sDrop, eBin, eUn, eC, eVar, eAnd, eOr, eNot, notD, eF, eCL, L1, L1N, nCL, aCons, aNil, eTup, nLst, eN, tV, tTru, asB, tru, tOrM, tAndM, tNotM, eIf, eSl, pSome, pNo, nUn, M.retb, List.map_cons, List.map_nil, List.length_cons, List.length_nil, List.replicate, List.cons_append, List.nil_append, List.getElem?_cons_zero, List.getElem?_cons_succ, List.set_cons_zero, List.set_cons_succ, M.bind_assoc, if_true, zl, Nat.reduceAdd, Nat.reduceLeDiff, iAny, itM, iR1, iR2, iEnumM, sOwn, sFrz, sFrzD, sSetL, sAug, addA, subA, eFd, eFp, lV, lO, lNil, lD0, sPar2, sPar3, sAsg, eq_i]
  cases h0 : (i == 0) with
  | false =>
    simp only [runB, startE, sSeq, sIf, sRet, sSet, sPar, sNil, sDrop, eBin, eUn, eC, eVar, eAnd, eOr, eNot, notD, eF, eCL, L1, L1N, nCL, aCons, aNil, eTup, nLst, eN, tV, tTru, asB, tru, tOrM, tAndM, tNotM, eIf, eSl, pSome, pNo, nUn, M.retb, List.map_cons, List.map_nil, List.length_cons, List.length_nil, List.replicate, List.cons_append, List.nil_append, List.getElem?_cons_zero, List.getElem?_cons_succ, List.set_cons_zero, List.set_cons_succ, M.bind_assoc, if_true, zl, Nat.reduceAdd, Nat.reduceLeDiff, iAny, itM, iR1, iR2, iEnumM, sOwn, sFrz, sFrzD, sSetL, sAug, addA, subA, eFd, eFp, lV, lO, lNil, lD0, sPar2, sPar3, sAsg, sApp, hz, eq_i, h0]
    exact Gen.ret ⟨_, _, _, rfl, rows_snoc hr hx, by simp, by simp⟩
  | true =>
    simp only [runB, startE, sSeq, sIf, sRet, sSet, sPar, sNil, sDrop, eBin, eUn, eC, eVar, eAnd, eOr, eNot, notD, eF, eCL, L1, L1N, nCL, aCons, aNil, eTup, nLst, eN, tV, tTru, asB, tru, tOrM, tAndM, tNotM, eIf, eSl, pSome, pNo, nUn, M.retb, List.map_cons, List.map_nil, List.length_cons, List.length_nil, List.replicate, List.cons_append, List.nil_append, List.getElem?_cons_zero, List.getElem?_cons_succ, List.set_cons_zero, List.set_cons_succ, M.bind_assoc, if_true, zl, Nat.reduceAdd, Nat.reduceLeDiff, iAny, itM, iR1, iR2, iEnumM, sOwn, sFrz, sFrzD, sSetL, sAug, addA, subA, eFd, eFp, lV, lO, lNil, lD0, sPar2, sPar3, sAsg, sApp]
    refine Gen.bind (gen_sort m) fun s hs => ?_
    have hl2 : (rows ++ [D.tup [.str "open", s]]).length = rows.length + 1 := by simp
    have hl3 : (rows ++ [D.tup [.str "open", s]] ++ [x]).length = rows.length + 2 := by simp
    have hz2 : ((rows ++ [D.tup [.str "open", s]]).length < sizeLine) = True := zlt (by omega)
    have hz3 : ((rows ++ [D.tup [.str "open", s]] ++ [x]).length < sizeLine) = True := zlt (by omega)
    simp only [runB, startE, sSeq, sIf, sRet, sSet, sPar, sNil, sDrop, eBin, eUn, eC, eVar, eAnd, eOr, eNot, notD, eF, eCL, L1, L1N, nCL, aCons, aNil, eTup, nLst, eN, tV, tTru, asB, tru, tOrM, tAndM, tNotM, eIf, eSl, pSome, pNo, nUn, M.retb, List.map_cons, List.map_nil, List.length_cons, List.length_nil, List.replicate, List.cons_append, List.nil_append, List.getElem?_cons_zero, List.getElem?_cons_succ, List.set_cons_zero, List.set_cons_succ, M.bind_assoc, if_true, zl, Nat.reduceAdd, Nat.reduceLeDiff, iAny, itM, iR1, iR2, iEnumM, sOwn, sFrz, sFrzD, sSetL, sAug, addA, subA, eFd, eFp, lV, lO, lNil, lD0, sPar2, sPar3, sAsg, hz, hz2, hz3, eq_i, h0]
    exact Gen.ret ⟨_, _, _, rfl, rows_snoc (rows_snoc (rows_snoc hr hs) hx) row_end, by simp, by simp⟩
def pB2 : SM := (sSeq (sFor (iR1 (aCons (eF 2 M__law_draw (aCons (eVar 0) (aCons (eC (.int 4)) aNil))) aNil)) (gN 7) pB3) (sIf (tV (eBin gtM (eF 2 M__law_draw (aCons (eVar 0) (aCons (eC (.int 6)) aNil))) (eC (.int 0)))) (sApp 4 (eTup (aCons (eC (.str "end")) aNil))) sNil))
theorem gen_pB2 {ns ks rows : List D} {t : Int} {z5 c z7 z8 z9 z10 : Sl} (m : Menu ns ks) (t0 : 0 ≤ t) (t1 : t < 3) (hr : ∀ r ∈ rows, Row r) (hl : rows.length ≤ 100) : Gen (pB2 (pgE ns ks t rows z5 c z7 z8 z9 z10)) fun cc => ∃ rows' w x y z, cc = .nx (pgE ns ks t rows' z5 c w x y z) ∧ (∀ r ∈ rows', Row r) ∧ rows.length ≤ rows'.length ∧ rows'.length ≤ rows.length + 10 := by
  unfold pB2
  refine Gen.seq (P := fun ρ' => ∃ rows' w y z, ρ' = pgE ns ks t rows' z5 c w z8 y z ∧ (∀ r ∈ rows', Row r) ∧ rows.length ≤ rows'.length ∧ rows'.length ≤ rows.length + 9) ?_ ?_
  · refine (gen_sFor (n := 3) (I := fun m ρ => ∃ rows' w y z, ρ = pgE ns ks t rows' z5 c w z8 y z ∧ (∀ r ∈ rows', Row r) ∧ rows.length ≤ rows'.length ∧ rows'.length ≤ rows.length + 3 * m)
      ((gen_it (n := 4) (by decide) (by decide)).mono fun ds ⟨i, e, i0, i1⟩ => ⟨i, e, i0, by omega⟩) ⟨rows, z7, z9, z10, rfl, hr, by omega, by omega⟩ (fun m m' ρ h hI => ?_) fun mm i ρ hlt hI => ?_).mono fun cc ⟨ρ', e, h⟩ => ⟨ρ', e, ?_⟩
    · obtain ⟨r', w, y, z, e, a1, a2, a3⟩ := hI
      exact ⟨r', w, y, z, e, a1, a2, by omega⟩
    · obtain ⟨r', w, y, z, e, a1, a2, a3⟩ := hI
      subst e
      refine ⟨_, rfl, (gen_pB3 (z7 := .v (.int i)) (z5 := z5) (c := c) (z8 := z8) (z9 := y) (z10 := z) m t0 t1 a1 (by omega)).mono fun cc ⟨r2, y2, z2, e, b1, b2, b3⟩ => ⟨_, e, r2, .v (.int i), y2, z2, rfl, b1, by omega, by omega⟩⟩
    · exact h
  · rintro ρ' ⟨r', w, y, z, e, a1, a2, a3⟩
    subst e
    have hz : (r'.length < sizeLine) = True := zlt (by omega)
    unfold pgE
    simp only [runB, startE, sSeq, sIf, sRet, sSet, sPar, sNil, sDrop, eBin, eUn, eC, eVar, eAnd, eOr, eNot, notD, eF, eCL, L1, L1N, nCL, aCons, aNil, eTup, nLst, eN, tV, tTru, asB, tru, tOrM, tAndM, tNotM, eIf, eSl, pSome, pNo, nUn, M.retb, List.map_cons, List.map_nil, List.length_cons, List.length_nil, List.replicate, List.cons_append, List.nil_append, List.getElem?_cons_zero, List.getElem?_cons_succ, List.set_cons_zero, List.set_cons_succ, M.bind_assoc, if_true, zl, Nat.reduceAdd, Nat.reduceLeDiff, iAny, itM, iR1, iR2, iEnumM, sOwn, sFrz, sFrzD, sSetL, sAug, addA, subA, eFd, eFp, lV, lO, lNil, lD0, sPar2, sPar3, sAsg]
    refine Gen.bindD (by decide) (by decide) fun i i0 i1 => ?_
    simp only [runB, startE, sSeq, sIf, sRet, sSet, sPar, sNil, sDrop, eBin, eUn, eC, eVar, eAnd, eOr, eNot, notD, eF, eCL, L1, L1N, nCL, aCons, aNil, eTup, nLst, eN, tV, tTru, asB, tru, tOrM, tAndM, tNotM, eIf, eSl, pSome, pNo, nUn, M.retb, List.map_cons, List.map_nil, List.length_cons, List.length_nil, List.replicate, List.cons_append, List.nil_append, List.getElem?_cons_zero, List.getElem?_cons_succ, List.set_cons_zero, List.set_cons_succ, M.bind_assoc, if_true, zl, Nat.reduceAdd, Nat.reduceLeDiff, iAny, itM, iR1, iR2, iEnumM, sOwn, sFrz, sFrzD, sSetL, sAug, addA, subA, eFd, eFp, lV, lO, lNil, lD0, sPar2, sPar3, sAsg, gt_i]
    cases decide (0 < i) with
    | false => simp only [runB, startE, sSeq, sIf, sRet, sSet, sPar, sNil, sDrop, eBin, eUn, eC, eVar, eAnd, eOr, eNot, notD, eF, eCL, L1, L1N, nCL, aCons, aNil, eTup, nLst, eN, tV, tTru, asB, tru, tOrM, tAndM, tNotM, eIf, eSl, pSome, pNo, nUn, M.retb, List.map_cons, List.map_nil, List.length_cons, List.length_nil, List.replicate, List.cons_append, List.nil_append, List.getElem?_cons_zero, List.getElem?_cons_succ, List.set_cons_zero, List.set_cons_succ, M.bind_assoc, if_true, zl, Nat.reduceAdd, Nat.reduceLeDiff, iAny, itM, iR1, iR2, iEnumM, sOwn, sFrz, sFrzD, sSetL, sAug, addA, subA, eFd, eFp, lV, lO, lNil, lD0, sPar2, sPar3, sAsg]; exact Gen.ret ⟨_, _, _, _, _, rfl, a1, by omega, by omega⟩
    | true =>
      simp only [runB, startE, sSeq, sIf, sRet, sSet, sPar, sNil, sDrop, eBin, eUn, eC, eVar, eAnd, eOr, eNot, notD, eF, eCL, L1, L1N, nCL, aCons, aNil, eTup, nLst, eN, tV, tTru, asB, tru, tOrM, tAndM, tNotM, eIf, eSl, pSome, pNo, nUn, M.retb, List.map_cons, List.map_nil, List.length_cons, List.length_nil, List.replicate, List.cons_append, List.nil_append, List.getElem?_cons_zero, List.getElem?_cons_succ, List.set_cons_zero, List.set_cons_succ, M.bind_assoc, if_true, zl, Nat.reduceAdd, Nat.reduceLeDiff, iAny, itM, iR1, iR2, iEnumM, sOwn, sFrz, sFrzD, sSetL, sAug, addA, subA, eFd, eFp, lV, lO, lNil, lD0, sPar2, sPar3, sAsg, sApp, hz]
      exact Gen.ret ⟨_, _, _, _, _, rfl, rows_snoc a1 row_end, by simp; omega, by simp; omega⟩
end G
namespace G
open PySem PySem.Spec PyProof.Rows L2 F
def pB4 : SM := (sApp 4 (eF 4 M__law_item (aCons (eVar 0) (aCons (eVar 1) (aCons (eVar 2) (aCons (eVar 3) aNil))))))
theorem page_eqG : b__law_page = (sSeq (sAsg (gTn 2 (gAll1 (gN 1) (gAll1 (gN 2) gAll0))) (eF 1 M__law_menu (aCons (eVar 0) aNil))) (sSeq (sPar2 3 4 (lV (eF 2 M__law_draw (aCons (eVar 0) (aCons (eC (.int 3)) aNil))) (lO (nLst aNil) lNil))) (sSeq (sFor (iR1 (aCons (eF 2 M__law_draw (aCons (eVar 0) (aCons (eC (.int 5)) aNil))) aNil)) (gN 5) pB1) (sSeq (sSet 6 (eLenO 4)) (sSeq (sFor (iR1 (aCons (eBin addM (eC (.int 1)) (eF 2 M__law_draw (aCons (eVar 0) (aCons (eC (.int 4)) aNil)))) aNil)) (gN 5) pB2) (sSeq (sFor (iR1 (aCons (eF 2 M__law_draw (aCons (eVar 0) (aCons (eC (.int 3)) aNil))) aNil)) (gN 7) pB4) (sFrz 4 (sRet (eTup (aCons (eCL (L1 tupleM) (aCons (eVar 4) aNil)) (aCons (eVar 6) aNil))))))))))) := rfl
theorem gen_pB4 {ns ks rows : List D} {t : Int} {z5 c z7 z8 z9 z10 : Sl} (m : Menu ns ks) (t0 : 0 ≤ t) (t1 : t < 3) (hr : ∀ r ∈ rows, Row r) (hl : rows.length ≤ 500) : Gen (pB4 (pgE ns ks t rows z5 c z7 z8 z9 z10)) fun cc => ∃ x, cc = .nx (pgE ns ks t (rows ++ [x]) z5 c z7 z8 z9 z10) ∧ Row x := by
  have hz : (rows.length < sizeLine) = True := zlt (by omega)
  unfold pB4 pgE
  simp only [runB, startE, sSeq, sIf, sRet, sSet, sPar, sNil, sDrop, eBin, eUn, eC, eVar, eAnd, eOr, eNot, notD, eF, eCL, L1, L1N, nCL, aCons, aNil, eTup, nLst, eN, tV, tTru, asB, tru, tOrM, tAndM, tNotM, eIf, eSl, pSome, pNo, nUn, M.retb, List.map_cons, List.map_nil, List.length_cons, List.length_nil, List.replicate, List.cons_append, List.nil_append, List.getElem?_cons_zero, List.getElem?_cons_succ, List.set_cons_zero, List.set_cons_succ, M.bind_assoc, if_true, zl, Nat.reduceAdd, Nat.reduceLeDiff, iAny, itM, iR1, iR2, iEnumM, sOwn, sFrz, sFrzD, sSetL, sAug, addA, subA, eFd, eFp, lV, lO, lNil, lD0, sPar2, sPar3, sAsg, sApp]
  refine Gen.bind (gen_item m t0 t1) fun x hx => ?_
  simp only [runB, startE, sSeq, sIf, sRet, sSet, sPar, sNil, sDrop, eBin, eUn, eC, eVar, eAnd, eOr, eNot, notD, eF, eCL, L1, L1N, nCL, aCons, aNil, eTup, nLst, eN, tV, tTru, asB, tru, tOrM, tAndM, tNotM, eIf, eSl, pSome, pNo, nUn, M.retb, List.map_cons, List.map_nil, List.length_cons, List.length_nil, List.replicate, List.cons_append, List.nil_append, List.getElem?_cons_zero, List.getElem?_cons_succ, List.set_cons_zero, List.set_cons_succ, M.bind_assoc, if_true, zl, Nat.reduceAdd, Nat.reduceLeDiff, iAny, itM, iR1, iR2, iEnumM, sOwn, sFrz, sFrzD, sSetL, sAug, addA, subA, eFd, eFp, lV, lO, lNil, lD0, sPar2, sPar3, sAsg, hz]
  exact Gen.ret ⟨x, rfl, hx⟩
theorem gen_page : Gen (M__law_page [.obj 0]) fun d => ∃ (rows : List D) (cut : Nat), d = .tup [.tup rows, .int (cut : Int)] ∧ Pg rows ∧ cut ≤ rows.length := by
  have hrun : ∀ m : M Ctl, Gen m (fun c => ∃ d, c = .rt d ∧ ∃ (rows : List D) (cut : Nat), d = .tup [.tup rows, .int (cut : Int)] ∧ Pg rows ∧ cut ≤ rows.length) → Gen (m >>= fun c => match c with
      | .rt d => .ret d
      | .nx _ => .ret .non
      | _ => .bad) fun d => ∃ (rows : List D) (cut : Nat), d = .tup [.tup rows, .int (cut : Int)] ∧ Pg rows ∧ cut ≤ rows.length := fun m h => Gen.bind h fun c ⟨d, e, q⟩ => by subst e; exact Gen.ret q
  unfold M__law_page runB
  refine hrun _ ?_
  rw [page_eqG]
  show Gen (sSeq _ _ [.v (.obj 0), .no, .no, .no, .no, .no, .no, .no, .no, .no, .no]) _
  refine Gen.seq (P := fun ρ => ∃ ns ks, Menu ns ks ∧ ρ = [.v (.obj 0), .v (.lst ns), .v (.lst ks), .no, .no, .no, .no, .no, .no, .no, .no]) ?_ ?_
  · simp only [runB, startE, sSeq, sIf, sRet, sSet, sPar, sNil, sDrop, eBin, eUn, eC, eVar, eAnd, eOr, eNot, notD, eF, eCL, L1, L1N, nCL, aCons, aNil, eTup, nLst, eN, tV, tTru, asB, tru, tOrM, tAndM, tNotM, eIf, eSl, pSome, pNo, nUn, M.retb, List.map_cons, List.map_nil, List.length_cons, List.length_nil, List.replicate, List.cons_append, List.nil_append, List.getElem?_cons_zero, List.getElem?_cons_succ, List.set_cons_zero, List.set_cons_succ, M.bind_assoc, if_true, zl, Nat.reduceAdd, Nat.reduceLeDiff, iAny, itM, iR1, iR2, iEnumM, sOwn, sFrz, sFrzD, sSetL, sAug, addA, subA, eFd, eFp, lV, lO, lNil, lD0, sPar2, sPar3, sAsg]
    refine Gen.bind gen_menu fun d ⟨ns, ks, e, hm⟩ => ?_
    subst e
    exact Gen.ret ⟨_, rfl, ns, ks, hm, rfl⟩
  rintro ρ ⟨ns, ks, hm, e⟩
  subst e
  refine Gen.seq (P := fun ρ => ∃ t : Int, 0 ≤ t ∧ t < 3 ∧ ρ = pgE ns ks t [] .no .no .no .no .no .no) ?_ ?_
  · simp only [runB, startE, sSeq, sIf, sRet, sSet, sPar, sNil, sDrop, eBin, eUn, eC, eVar, eAnd, eOr, eNot, notD, eF, eCL, L1, L1N, nCL, aCons, aNil, eTup, nLst, eN, tV, tTru, asB, tru, tOrM, tAndM, tNotM, eIf, eSl, pSome, pNo, nUn, M.retb, List.map_cons, List.map_nil, List.length_cons, List.length_nil, List.replicate, List.cons_append, List.nil_append, List.getElem?_cons_zero, List.getElem?_cons_succ, List.set_cons_zero, List.set_cons_succ, M.bind_assoc, if_true, zl, Nat.reduceAdd, Nat.reduceLeDiff, iAny, itM, iR1, iR2, iEnumM, sOwn, sFrz, sFrzD, sSetL, sAug, addA, subA, eFd, eFp, lV, lO, lNil, lD0, sPar2, sPar3, sAsg]
    refine Gen.bindD (by decide) (by decide) fun t t0 t1 => ?_
    try simp only [runB, startE, sSeq, sIf, sRet, sSet, sPar, sNil, sDrop, eBin, eUn, eC, eVar, eAnd, eOr, eNot, notD, eF, eCL, L1, L1N, nCL, aCons, aNil, eTup, nLst, eN, tV, tTru, asB, tru, tOrM, tAndM, tNotM, eIf, eSl, pSome, pNo, nUn, M.retb, List.map_cons, List.map_nil, List.length_cons, List.length_nil, List.replicate, List.cons_append, List.nil_append, List.getElem?_cons_zero, List.getElem?_cons_succ, List.set_cons_zero, List.set_cons_succ, M.bind_assoc, if_true, zl, Nat.reduceAdd, Nat.reduceLeDiff, iAny, itM, iR1, iR2, iEnumM, sOwn, sFrz, sFrzD, sSetL, sAug, addA, subA, eFd, eFp, lV, lO, lNil, lD0, sPar2, sPar3, sAsg]
    exact Gen.ret ⟨_, rfl, t, t0, t1, rfl⟩
  rintro ρ ⟨t, t0, t1, e⟩
  subst e
  refine Gen.seq (P := fun ρ => ∃ rows z5 z8, ρ = pgE ns ks t rows z5 .no .no z8 .no .no ∧ (∀ r ∈ rows, Row r) ∧ rows.length ≤ 8) ?_ ?_
  · refine (gen_sFor (n := 4) (I := fun m ρ => ∃ rows z5 z8, ρ = pgE ns ks t rows z5 .no .no z8 .no .no ∧ (∀ r ∈ rows, Row r) ∧ rows.length ≤ 2 * m)
      ((gen_it (n := 5) (by decide) (by decide)).mono fun ds ⟨i, e, i0, i1⟩ => ⟨i, e, i0, by omega⟩) ⟨[], .no, .no, rfl, (fun r hr => nomatch hr), by simp⟩ (fun m m' ρ h hI => ?_) fun mm i ρ hlt hI => ?_).mono fun cc ⟨ρ', e, h⟩ => ⟨ρ', e, ?_⟩
    · obtain ⟨r', z5, z8, e, a1, a3⟩ := hI
      exact ⟨r', z5, z8, e, a1, by omega⟩
    · obtain ⟨r', z5, z8, e, a1, a3⟩ := hI
      subst e
      exact ⟨_, rfl, (gen_pB1 (z5 := .v (.int i)) (c := .no) (z7 := .no) (z8 := z8) (z9 := .no) (z10 := .no) hm a1 (by omega)).mono fun cc ⟨r2, z, e, b1, b2, b3⟩ => ⟨_, e, r2, .v (.int i), z, rfl, b1, by omega⟩⟩
    · exact h
  rintro ρ ⟨rows, z5, z8, e, hr, hl⟩
  subst e
  refine Gen.seq (P := fun ρ => ρ = pgE ns ks t rows z5 (.v (.int (rows.length : Nat))) .no z8 .no .no) ?_ ?_
  · unfold pgE
    simp only [runB, startE, sSeq, sIf, sRet, sSet, sPar, sNil, sDrop, eBin, eUn, eC, eVar, eAnd, eOr, eNot, notD, eF, eCL, L1, L1N, nCL, aCons, aNil, eTup, nLst, eN, tV, tTru, asB, tru, tOrM, tAndM, tNotM, eIf, eSl, pSome, pNo, nUn, M.retb, List.map_cons, List.map_nil, List.length_cons, List.length_nil, List.replicate, List.cons_append, List.nil_append, List.getElem?_cons_zero, List.getElem?_cons_succ, List.set_cons_zero, List.set_cons_succ, M.bind_assoc, if_true, zl, Nat.reduceAdd, Nat.reduceLeDiff, iAny, itM, iR1, iR2, iEnumM, sOwn, sFrz, sFrzD, sSetL, sAug, addA, subA, eFd, eFp, lV, lO, lNil, lD0, sPar2, sPar3, sAsg, eLenO]
    exact Gen.ret ⟨_, rfl, rfl⟩
  rintro ρ e
  subst e
  refine Gen.seq (P := fun ρ => ∃ rows' z5 w x y z, ρ = pgE ns ks t rows' z5 (.v (.int (rows.length : Nat))) w x y z ∧ (∀ r ∈ rows', Row r) ∧ rows.length ≤ rows'.length ∧ rows'.length ≤ rows.length + 40) ?_ ?_
  · refine (gen_sFor (n := 4) (I := fun m ρ => ∃ rows' z5 w x y z, ρ = pgE ns ks t rows' z5 (.v (.int (rows.length : Nat))) w x y z ∧ (∀ r ∈ rows', Row r) ∧ rows.length ≤ rows'.length ∧ rows'.length ≤ rows.length + 10 * m)
      ((gen_it1 (n := 4) (by decide) (by decide)).mono fun ds ⟨i, e, i0, i1⟩ => ⟨i, e, i0, by omega⟩) ⟨rows, z5, .no, z8, .no, .no, rfl, hr, by omega, by omega⟩ (fun m m' ρ h hI => ?_) fun mm i ρ hlt hI => ?_).mono fun cc ⟨ρ', e, h⟩ => ⟨ρ', e, ?_⟩
    · obtain ⟨r', z5, w, x, y, z, e, a1, a2, a3⟩ := hI
      exact ⟨r', z5, w, x, y, z, e, a1, a2, by omega⟩
    · obtain ⟨r', z5, w, x, y, z, e, a1, a2, a3⟩ := hI
      subst e
      exact ⟨_, rfl, (gen_pB2 (z5 := .v (.int i)) (c := .v (.int (rows.length : Nat))) (z7 := w) (z8 := x) (z9 := y) (z10 := z) hm t0 t1 a1 (by omega)).mono fun cc ⟨r2, w2, x2, y2, z2, e, b1, b2, b3⟩ => ⟨_, e, r2, .v (.int i), w2, x2, y2, z2, rfl, b1, by omega, by omega⟩⟩
    · exact h
  rintro ρ ⟨rows2, z5, w, x, y, z, e, hr2, hl2, hl3⟩
  subst e
  refine Gen.seq (P := fun ρ => ∃ rows' w, ρ = pgE ns ks t rows' z5 (.v (.int (rows.length : Nat))) w x y z ∧ (∀ r ∈ rows', Row r) ∧ rows.length ≤ rows'.length ∧ rows'.length ≤ rows2.length + 2) ?_ ?_
  · refine (gen_sFor (n := 2) (I := fun m ρ => ∃ rows' w, ρ = pgE ns ks t rows' z5 (.v (.int (rows.length : Nat))) w x y z ∧ (∀ r ∈ rows', Row r) ∧ rows.length ≤ rows'.length ∧ rows'.length ≤ rows2.length + m)
      ((gen_it (n := 3) (by decide) (by decide)).mono fun ds ⟨i, e, i0, i1⟩ => ⟨i, e, i0, by omega⟩) ⟨rows2, w, rfl, hr2, by omega, by omega⟩ (fun m m' ρ h hI => ?_) fun mm i ρ hlt hI => ?_).mono fun cc ⟨ρ', e, h⟩ => ⟨ρ', e, ?_⟩
    · obtain ⟨r', w, e, a1, a2, a3⟩ := hI
      exact ⟨r', w, e, a1, a2, by omega⟩
    · obtain ⟨r', w, e, a1, a2, a3⟩ := hI
      subst e
      exact ⟨_, rfl, (gen_pB4 (z5 := z5) (c := .v (.int (rows.length : Nat))) (z7 := .v (.int i)) (z8 := x) (z9 := y) (z10 := z) hm t0 t1 a1 (by omega)).mono fun cc ⟨r, e, b1⟩ => ⟨_, e, r' ++ [r], .v (.int i), rfl, rows_snoc a1 b1, by simp; omega, by simp; omega⟩⟩
    · exact h
  rintro ρ ⟨rows3, w, e, hr3, hl4, hl5⟩
  subst e
  unfold pgE
  simp only [runB, startE, sSeq, sIf, sRet, sSet, sPar, sNil, sDrop, eBin, eUn, eC, eVar, eAnd, eOr, eNot, notD, eF, eCL, L1, L1N, nCL, aCons, aNil, eTup, nLst, eN, tV, tTru, asB, tru, tOrM, tAndM, tNotM, eIf, eSl, pSome, pNo, nUn, M.retb, List.map_cons, List.map_nil, List.length_cons, List.length_nil, List.replicate, List.cons_append, List.nil_append, List.getElem?_cons_zero, List.getElem?_cons_succ, List.set_cons_zero, List.set_cons_succ, M.bind_assoc, if_true, zl, Nat.reduceAdd, Nat.reduceLeDiff, iAny, itM, iR1, iR2, iEnumM, sOwn, sFrz, sFrzD, sSetL, sAug, addA, subA, eFd, eFp, lV, lO, lNil, lD0, sPar2, sPar3, sAsg, tupleM]
  exact Gen.ret ⟨_, rfl, rows3, rows.length, rfl, ⟨by omega, hr3⟩, hl4⟩
/-! ## carets drawn -/
theorem cs_set {n : Nat} {ns : List Int} (h : ∀ c ∈ ns, 0 ≤ c ∧ c ≤ n) (hl : ns.length ≤ 3) : ∃ ms, sSetN (.lst (ns.map D.int)) = .ret (ms.map D.int) ∧ Cs n ms := by
  obtain ⟨d1, d2⟩ := dd_nodup _ ns (Nat.le_refl _)
  refine ⟨srtI ns.eraseDups, ?_, ?_, fun c hc => ?_, ?_⟩
  · unfold sSetN
    simp only [intsOf_int]
    rw [if_pos (by omega)]
  · have h1 := srt_sorted ns.eraseDups
    have h2 : (srtI ns.eraseDups).Nodup := (srt_perm _).nodup_iff.mpr d1
    exact (List.Pairwise.and h1 h2).imp fun {a b} ⟨q1, q2⟩ => by omega
  · rw [(srt_perm _).mem_iff, d2] at hc
    exact h c hc
  · rw [(srt_perm _).length_eq]
    have : ns.eraseDups.length ≤ ns.length := by
      have key : ∀ (n : Nat) (l : List Int), l.length ≤ n → l.eraseDups.length ≤ l.length := by
        intro n
        induction n with
        | zero => intro l h; have : l = [] := List.eq_nil_of_length_eq_zero (by omega); subst this; simp
        | succ n ih =>
          intro l h
          cases l with
          | nil => simp
          | cons a l =>
            rw [List.eraseDups_cons, List.length_cons, List.length_cons]
            have h1 : (l.filter fun b => !b == a).length ≤ l.length := List.length_filter_le _ _
            have := ih (l.filter fun b => !b == a) (by simp at h; omega)
            omega
      exact key _ ns (Nat.le_refl _)
    omega
theorem cs_one {n c : Nat} (h : c ≤ n) : Cs n [(c : Int)] := by
  refine ⟨List.pairwise_singleton _ _, fun x hx => ?_, by simp⟩
  have : x = (c : Int) := by simpa using hx
  omega
theorem cs_nil (n : Nat) : Cs n [] := ⟨.nil, (fun x hx => nomatch hx), by simp⟩
theorem cs_step (n c : Nat) (hn : n ≤ 60) (hc : 1 ≤ c) : ∃ ms, stepD ((n : Int) + 1) (c : Int) = ms.map D.int ∧ Cs n ms := by
  refine ⟨(List.range ((((n : Int) + 1 + c - 1) / c).toNat)).map fun (i : Nat) => (i : Int) * (c : Int), ?_, ?_, fun x hx => ?_, ?_⟩
  · unfold stepD
    rw [List.map_map]
    rfl
  · rw [List.pairwise_map]
    refine List.pairwise_lt_range.imp fun {i j} (h : i < j) => ?_
    have : (i : Int) * c + 1 * c ≤ (j : Int) * c := by
      rw [← Int.add_mul]
      exact Int.mul_le_mul_of_nonneg_right (by omega) (by omega)
    omega
  · obtain ⟨i, hi, rfl⟩ := List.mem_map.mp hx
    have hi := List.mem_range.mp hi
    have h1 : (i : Int) + 1 ≤ ((n : Int) + 1 + c - 1) / c := by omega
    have h2 := (Int.le_ediv_iff_mul_le (by omega)).mp h1
    rw [Int.add_mul] at h2
    refine ⟨Int.mul_nonneg (by omega) (by omega), by omega⟩
  · rw [List.length_map, List.length_range]
    have h1 : ((n : Int) + 1 + c - 1) / c ≤ n + 1 := by
      refine Int.ediv_le_of_le_mul (by omega) ?_
      have : (n : Int) * 1 ≤ n * c := Int.mul_le_mul_of_nonneg_left (by omega) (by omega)
      rw [Int.add_mul]
      omega
    omega
theorem gen_marks {rows : List D} {cut : Nat} (hl : rows.length ≤ 60) (hc : cut ≤ rows.length) : Gen (M__law_marks [.obj 0, .tup rows, .int (cut : Int)]) fun d => ∃ ms, d = .tup (ms.map D.int) ∧ Cs rows.length ms := by
  have tl : ∀ xs : List D, tupleM (.lst xs) = .ret (.tup xs) := fun _ => rfl
  unfold M__law_marks b__law_marks
  simp only [runB, startE, sSeq, sIf, sRet, sSet, sPar, sNil, sDrop, eBin, eUn, eC, eVar, eAnd, eOr, eNot, notD, eF, eCL, L1, L1N, nCL, aCons, aNil, eTup, nLst, eN, tV, tTru, asB, tru, tOrM, tAndM, tNotM, eIf, eSl, pSome, pNo, nUn, M.retb, List.map_cons, List.map_nil, List.length_cons, List.length_nil, List.replicate, List.cons_append, List.nil_append, List.getElem?_cons_zero, List.getElem?_cons_succ, List.set_cons_zero, List.set_cons_succ, M.bind_assoc, if_true, zl, Nat.reduceAdd, Nat.reduceLeDiff, iAny, itM, iR1, iR2, iEnumM, sOwn, sFrz, sFrzD, sSetL, sAug, addA, subA, eFd, eFp, lV, lO, lNil, lD0, sPar2, sPar3, sAsg, len_t, add_i]
  refine Gen.bindD (by decide) (by decide) fun w w0 w1 => ?_
  simp only [runB, startE, sSeq, sIf, sRet, sSet, sPar, sNil, sDrop, eBin, eUn, eC, eVar, eAnd, eOr, eNot, notD, eF, eCL, L1, L1N, nCL, aCons, aNil, eTup, nLst, eN, tV, tTru, asB, tru, tOrM, tAndM, tNotM, eIf, eSl, pSome, pNo, nUn, M.retb, List.map_cons, List.map_nil, List.length_cons, List.length_nil, List.replicate, List.cons_append, List.nil_append, List.getElem?_cons_zero, List.getElem?_cons_succ, List.set_cons_zero, List.set_cons_succ, M.bind_assoc, if_true, zl, Nat.reduceAdd, Nat.reduceLeDiff, iAny, itM, iR1, iR2, iEnumM, sOwn, sFrz, sFrzD, sSetL, sAug, addA, subA, eFd, eFp, lV, lO, lNil, lD0, sPar2, sPar3, sAsg, lt_i]
  cases decide (w < 4) with
  | true =>
    simp only [runB, startE, sSeq, sIf, sRet, sSet, sPar, sNil, sDrop, eBin, eUn, eC, eVar, eAnd, eOr, eNot, notD, eF, eCL, L1, L1N, nCL, aCons, aNil, eTup, nLst, eN, tV, tTru, asB, tru, tOrM, tAndM, tNotM, eIf, eSl, pSome, pNo, nUn, M.retb, List.map_cons, List.map_nil, List.length_cons, List.length_nil, List.replicate, List.cons_append, List.nil_append, List.getElem?_cons_zero, List.getElem?_cons_succ, List.set_cons_zero, List.set_cons_succ, M.bind_assoc, if_true, zl, Nat.reduceAdd, Nat.reduceLeDiff, iAny, itM, iR1, iR2, iEnumM, sOwn, sFrz, sFrzD, sSetL, sAug, addA, subA, eFd, eFp, lV, lO, lNil, lD0, sPar2, sPar3, sAsg]
    exact Gen.ret ⟨[(cut : Int)], rfl, cs_one hc⟩
  | false =>
    simp only [runB, startE, sSeq, sIf, sRet, sSet, sPar, sNil, sDrop, eBin, eUn, eC, eVar, eAnd, eOr, eNot, notD, eF, eCL, L1, L1N, nCL, aCons, aNil, eTup, nLst, eN, tV, tTru, asB, tru, tOrM, tAndM, tNotM, eIf, eSl, pSome, pNo, nUn, M.retb, List.map_cons, List.map_nil, List.length_cons, List.length_nil, List.replicate, List.cons_append, List.nil_append, List.getElem?_cons_zero, List.getElem?_cons_succ, List.set_cons_zero, List.set_cons_succ, M.bind_assoc, if_true, zl, Nat.reduceAdd, Nat.reduceLeDiff, iAny, itM, iR1, iR2, iEnumM, sOwn, sFrz, sFrzD, sSetL, sAug, addA, subA, eFd, eFp, lV, lO, lNil, lD0, sPar2, sPar3, sAsg]
    refine Gen.bindD (by omega) (by omega) fun a a0 a1 => ?_
    try simp only [runB, startE, sSeq, sIf, sRet, sSet, sPar, sNil, sDrop, eBin, eUn, eC, eVar, eAnd, eOr, eNot, notD, eF, eCL, L1, L1N, nCL, aCons, aNil, eTup, nLst, eN, tV, tTru, asB, tru, tOrM, tAndM, tNotM, eIf, eSl, pSome, pNo, nUn, M.retb, List.map_cons, List.map_nil, List.length_cons, List.length_nil, List.replicate, List.cons_append, List.nil_append, List.getElem?_cons_zero, List.getElem?_cons_succ, List.set_cons_zero, List.set_cons_succ, M.bind_assoc, if_true, zl, Nat.reduceAdd, Nat.reduceLeDiff, iAny, itM, iR1, iR2, iEnumM, sOwn, sFrz, sFrzD, sSetL, sAug, addA, subA, eFd, eFp, lV, lO, lNil, lD0, sPar2, sPar3, sAsg]
    refine Gen.bindD (by omega) (by omega) fun b b0 b1 => ?_
    simp only [runB, startE, sSeq, sIf, sRet, sSet, sPar, sNil, sDrop, eBin, eUn, eC, eVar, eAnd, eOr, eNot, notD, eF, eCL, L1, L1N, nCL, aCons, aNil, eTup, nLst, eN, tV, tTru, asB, tru, tOrM, tAndM, tNotM, eIf, eSl, pSome, pNo, nUn, M.retb, List.map_cons, List.map_nil, List.length_cons, List.length_nil, List.replicate, List.cons_append, List.nil_append, List.getElem?_cons_zero, List.getElem?_cons_succ, List.set_cons_zero, List.set_cons_succ, M.bind_assoc, if_true, zl, Nat.reduceAdd, Nat.reduceLeDiff, iAny, itM, iR1, iR2, iEnumM, sOwn, sFrz, sFrzD, sSetL, sAug, addA, subA, eFd, eFp, lV, lO, lNil, lD0, sPar2, sPar3, sAsg, eq_i]
    cases h4 : (w == 4) with
    | true =>
      have hs : sliceM none (some 1) (.lst [.int a, .int b]) = .ret (.lst [.int a]) := rfl
      have ha : addM (.lst [.int (cut : Int)]) (.lst [.int a]) = .ret (.lst [.int (cut : Int), .int a]) := rfl
      obtain ⟨ms, e, cs⟩ := cs_set (n := rows.length) (ns := [(cut : Int), a]) (fun c hc => by
        simp only [List.mem_cons, List.not_mem_nil, or_false] at hc
        rcases hc with q | q <;> omega) (by simp)
      have e : sSetN (.lst [.int (cut : Int), .int a]) = .ret (ms.map D.int) := e
      simp only [runB, startE, sSeq, sIf, sRet, sSet, sPar, sNil, sDrop, eBin, eUn, eC, eVar, eAnd, eOr, eNot, notD, eF, eCL, L1, L1N, nCL, aCons, aNil, eTup, nLst, eN, tV, tTru, asB, tru, tOrM, tAndM, tNotM, eIf, eSl, pSome, pNo, nUn, M.retb, List.map_cons, List.map_nil, List.length_cons, List.length_nil, List.replicate, List.cons_append, List.nil_append, List.getElem?_cons_zero, List.getElem?_cons_succ, List.set_cons_zero, List.set_cons_succ, M.bind_assoc, if_true, zl, Nat.reduceAdd, Nat.reduceLeDiff, iAny, itM, iR1, iR2, iEnumM, sOwn, sFrz, sFrzD, sSetL, sAug, addA, subA, eFd, eFp, lV, lO, lNil, lD0, sPar2, sPar3, sAsg, hs, ha, e, tl]
      exact Gen.ret ⟨ms, rfl, cs⟩
    | false =>
      simp only [runB, startE, sSeq, sIf, sRet, sSet, sPar, sNil, sDrop, eBin, eUn, eC, eVar, eAnd, eOr, eNot, notD, eF, eCL, L1, L1N, nCL, aCons, aNil, eTup, nLst, eN, tV, tTru, asB, tru, tOrM, tAndM, tNotM, eIf, eSl, pSome, pNo, nUn, M.retb, List.map_cons, List.map_nil, List.length_cons, List.length_nil, List.replicate, List.cons_append, List.nil_append, List.getElem?_cons_zero, List.getElem?_cons_succ, List.set_cons_zero, List.set_cons_succ, M.bind_assoc, if_true, zl, Nat.reduceAdd, Nat.reduceLeDiff, iAny, itM, iR1, iR2, iEnumM, sOwn, sFrz, sFrzD, sSetL, sAug, addA, subA, eFd, eFp, lV, lO, lNil, lD0, sPar2, sPar3, sAsg, eq_i]
      cases h5 : (w == 5) with
      | true =>
        have ha : addM (.lst [.int (cut : Int)]) (.lst [.int a, .int b]) = .ret (.lst [.int (cut : Int), .int a, .int b]) := rfl
        obtain ⟨ms, e, cs⟩ := cs_set (n := rows.length) (ns := [(cut : Int), a, b]) (fun c hc => by
          simp only [List.mem_cons, List.not_mem_nil, or_false] at hc
          rcases hc with q | q | q <;> omega) (by simp)
        have e : sSetN (.lst [.int (cut : Int), .int a, .int b]) = .ret (ms.map D.int) := e
        simp only [runB, startE, sSeq, sIf, sRet, sSet, sPar, sNil, sDrop, eBin, eUn, eC, eVar, eAnd, eOr, eNot, notD, eF, eCL, L1, L1N, nCL, aCons, aNil, eTup, nLst, eN, tV, tTru, asB, tru, tOrM, tAndM, tNotM, eIf, eSl, pSome, pNo, nUn, M.retb, List.map_cons, List.map_nil, List.length_cons, List.length_nil, List.replicate, List.cons_append, List.nil_append, List.getElem?_cons_zero, List.getElem?_cons_succ, List.set_cons_zero, List.set_cons_succ, M.bind_assoc, if_true, zl, Nat.reduceAdd, Nat.reduceLeDiff, iAny, itM, iR1, iR2, iEnumM, sOwn, sFrz, sFrzD, sSetL, sAug, addA, subA, eFd, eFp, lV, lO, lNil, lD0, sPar2, sPar3, sAsg, ha, e, tl]
        exact Gen.ret ⟨ms, rfl, cs⟩
      | false =>
        simp only [runB, startE, sSeq, sIf, sRet, sSet, sPar, sNil, sDrop, eBin, eUn, eC, eVar, eAnd, eOr, eNot, notD, eF, eCL, L1, L1N, nCL, aCons, aNil, eTup, nLst, eN, tV, tTru, asB, tru, tOrM, tAndM, tNotM, eIf, eSl, pSome, pNo, nUn, M.retb, List.map_cons, List.map_nil, List.length_cons, List.length_nil, List.replicate, List.cons_append, List.nil_append, List.getElem?_cons_zero, List.getElem?_cons_succ, List.set_cons_zero, List.set_cons_succ, M.bind_assoc, if_true, zl, Nat.reduceAdd, Nat.reduceLeDiff, iAny, itM, iR1, iR2, iEnumM, sOwn, sFrz, sFrzD, sSetL, sAug, addA, subA, eFd, eFp, lV, lO, lNil, lD0, sPar2, sPar3, sAsg, eq_i]
        cases h6 : (w == 6) with
        | true =>
          have hf : fdivM (.int ((rows.length : Int) + 1)) (.int 12) = .ret (.int (((rows.length + 1) / 12 : Nat) : Int)) := by
            rw [fdiv_n _ _ (by decide) (by decide)]
            rfl
          obtain ⟨ms, e, cs⟩ := cs_step rows.length (1 + (rows.length + 1) / 12) hl (by omega)
          have hc2 : (1 : Int) + (((rows.length + 1) / 12 : Nat) : Int) = ((1 + (rows.length + 1) / 12 : Nat) : Int) := by omega
          have ht : tupRg3 [.int 0, .int ((rows.length : Int) + 1), .int ((1 + (rows.length + 1) / 12 : Nat) : Int)] = .ret (.tup (ms.map D.int)) := by
            rw [← e]
            have g1 : (0 : Int) ≤ (rows.length : Int) + 1 := by omega
            have g2 : (rows.length : Int) + 1 ≤ 16777216 := by omega
            have g3 : (1 : Int) ≤ ((1 + (rows.length + 1) / 12 : Nat) : Int) := by omega
            have g4 : ((1 + (rows.length + 1) / 12 : Nat) : Int) ≤ 16777216 := by omega
            unfold tupRg3
            dsimp only
            rw [if_pos ⟨rfl, g1, g2, g3, g4⟩]
          simp only [runB, startE, sSeq, sIf, sRet, sSet, sPar, sNil, sDrop, eBin, eUn, eC, eVar, eAnd, eOr, eNot, notD, eF, eCL, L1, L1N, nCL, aCons, aNil, eTup, nLst, eN, tV, tTru, asB, tru, tOrM, tAndM, tNotM, eIf, eSl, pSome, pNo, nUn, M.retb, List.map_cons, List.map_nil, List.length_cons, List.length_nil, List.replicate, List.cons_append, List.nil_append, List.getElem?_cons_zero, List.getElem?_cons_succ, List.set_cons_zero, List.set_cons_succ, M.bind_assoc, if_true, zl, Nat.reduceAdd, Nat.reduceLeDiff, iAny, itM, iR1, iR2, iEnumM, sOwn, sFrz, sFrzD, sSetL, sAug, addA, subA, eFd, eFp, lV, lO, lNil, lD0, sPar2, sPar3, sAsg, hf, add_i, hc2, eTR3, ht]
          refine Gen.bindD (by decide) (by decide) fun j j0 j1 => ?_
          obtain ⟨x, hx, ex⟩ := idx_mem (xs := [.tup (ms.map D.int), .tup []]) j0 (by simpa using j1)
          simp only [runB, startE, sSeq, sIf, sRet, sSet, sPar, sNil, sDrop, eBin, eUn, eC, eVar, eAnd, eOr, eNot, notD, eF, eCL, L1, L1N, nCL, aCons, aNil, eTup, nLst, eN, tV, tTru, asB, tru, tOrM, tAndM, tNotM, eIf, eSl, pSome, pNo, nUn, M.retb, List.map_cons, List.map_nil, List.length_cons, List.length_nil, List.replicate, List.cons_append, List.nil_append, List.getElem?_cons_zero, List.getElem?_cons_succ, List.set_cons_zero, List.set_cons_succ, M.bind_assoc, if_true, zl, Nat.reduceAdd, Nat.reduceLeDiff, iAny, itM, iR1, iR2, iEnumM, sOwn, sFrz, sFrzD, sSetL, sAug, addA, subA, eFd, eFp, lV, lO, lNil, lD0, sPar2, sPar3, sAsg, ex]
          refine Gen.ret ?_
          simp only [List.mem_cons, List.not_mem_nil, or_false] at hx
          rcases hx with q | q
          · exact ⟨ms, q, cs⟩
          · exact ⟨[], q, cs_nil _⟩
        | false =>
          obtain ⟨ms, e, cs⟩ := cs_set (n := rows.length) (ns := [a, b]) (fun c hc => by
            simp only [List.mem_cons, List.not_mem_nil, or_false] at hc
            rcases hc with q | q <;> omega) (by simp)
          have e : sSetN (.lst [.int a, .int b]) = .ret (ms.map D.int) := e
          simp only [runB, startE, sSeq, sIf, sRet, sSet, sPar, sNil, sDrop, eBin, eUn, eC, eVar, eAnd, eOr, eNot, notD, eF, eCL, L1, L1N, nCL, aCons, aNil, eTup, nLst, eN, tV, tTru, asB, tru, tOrM, tAndM, tNotM, eIf, eSl, pSome, pNo, nUn, M.retb, List.map_cons, List.map_nil, List.length_cons, List.length_nil, List.replicate, List.cons_append, List.nil_append, List.getElem?_cons_zero, List.getElem?_cons_succ, List.set_cons_zero, List.set_cons_succ, M.bind_assoc, if_true, zl, Nat.reduceAdd, Nat.reduceLeDiff, iAny, itM, iR1, iR2, iEnumM, sOwn, sFrz, sFrzD, sSetL, sAug, addA, subA, eFd, eFp, lV, lO, lNil, lD0, sPar2, sPar3, sAsg, e, tl]
          exact Gen.ret ⟨ms, rfl, cs⟩
end G
namespace G
open PySem PySem.Spec PyProof.Rows L2 F
def lw0 : SM := (sSet 1 (eF 1 M__law_feed (aCons (eVar 0) aNil)))
def lw1b : SM := (sSeq (sAsg (gTn 2 (gAll1 (gN 6) (gAll1 (gN 7) gAll0))) (eF 1 M__law_page (aCons (eVar 1) aNil))) (sSeq (sSet 8 (eCL (L1 reprM) (aCons (eVar 6) aNil))) (sSeq (sIf (tOrM (tNotM (tTru (eF 2 M__law_is_right (aCons (eVar 6) (aCons (eTup (aCons (eVar 7) aNil)) aNil))))) (tNotM (tTru (eF 2 M__law_is_right (aCons (eVar 6) (aCons (eF 3 M__law_marks (aCons (eVar 1) (aCons (eVar 6) (aCons (eVar 7) aNil)))) aNil)))))) (sRet (eC (.bl false))) sNil) (sIf (tV (eBin neM (eCL (L1 reprM) (aCons (eVar 6) aNil)) (eVar 8))) (sRet (eC (.bl false))) sNil))))
def lw1 : SM := (sFor (iR1 (aCons (eC (.int 3)) aNil)) (gN 2) lw1b)
def lw2 : SM := (sSet 3 (eTup (aCons (eTup (aCons (eC (.str "open")) (aCons (eC (.str "if")) aNil))) (aCons (eTup (aCons (eC (.str "open")) (aCons (eC (.str "if")) aNil))) (aCons (eTup (aCons (eC (.str "end")) aNil)) (aCons (eTup (aCons (eC (.str "stop")) aNil)) (aCons (eTup (aCons (eC (.str "open")) (aCons (eC (.str "if")) aNil))) (aCons (eTup (aCons (eC (.str "end")) aNil)) aNil))))))))
def lw3 : SM := (sSet 3 (eBin addM (eVar 3) (eTup (aCons (eTup (aCons (eC (.str "end")) aNil)) (aCons (eTup (aCons (eC (.str "end")) aNil)) (aCons (eTup (aCons (eC (.str "end")) aNil)) (aCons (eTup (aCons (eC (.str "stop")) aNil)) aNil)))))))
def lw4b : SM := (sIf (tNotM (tTru (eF 2 M__law_is_right (aCons (eVar 3) (aCons (eVar 4) aNil))))) (sRet (eC (.bl false))) sNil)
def lw4 : SM := (sFor (iAny (eN (nLst (aCons (eTup (aCons (eC (.int 1)) aNil)) (aCons (eTup (aCons (eC (.int 2)) aNil)) (aCons (eTup (aCons (eC (.int 0)) (aCons (eC (.int 5)) aNil))) (aCons (eTup (aCons (eC (.int 2)) (aCons (eC (.int 4)) (aCons (eC (.int 7)) aNil)))) (aCons (eTup (aCons (eC (.int 10)) aNil)) (aCons (eTup aNil) aNil))))))))) (gN 4) lw4b)
def lw5 : SM := (sSetL 5 (nComp [9] (iR2 (aCons (eC (.int 2)) (aCons (eC (.int 10)) aNil))) (gN 9) tYesM (eF 3 M_layer_of (aCons (eVar 3) (aCons (eTup (aCons (eC (.int 2)) aNil)) (aCons (eVar 9) aNil))))))
def lw6 : SM := (sRet (eAnd (eBin eqM (eVar 5) (eN (nLst (aCons (eC (.int 0)) (aCons (eC (.int 1)) (aCons (eC (.int 1)) (aCons (eC (.int 1)) (aCons (eC (.int 1)) (aCons (eC (.int 2)) (aCons (eC (.int 3)) (aCons (eC (.int 4)) aNil))))))))))) (eBin eqM (eF 3 M_rows_of_layer (aCons (eVar 3) (aCons (eTup (aCons (eC (.int 2)) aNil)) (aCons (eC (.int 4)) aNil)))) (eTup (aCons (eC (.int 3)) (aCons (eC (.int 4)) (aCons (eC (.int 5)) (aCons (eC (.int 6)) aNil))))))))
theorem lw_eq : b_law = sSeq lw0 (sSeq lw1 (sSeq lw2 (sSeq lw3 (sSeq lw4 (sSeq lw5 (lw6)))))) := rfl
theorem page_repr {rows : List D} (g : Pg rows) : ∃ z, reprM (.tup rows) = .ret (.str z) := by
  have hl := g.len
  have key : ∀ rs : List D, (∀ r ∈ rs, Row r) → D.okL rs = true ∧ D.depL rs ≤ 4 ∧ D.wL rs ≤ rs.length * 302 := by
    intro rs
    induction rs with
    | nil => intro _; exact ⟨rfl, by decide, by decide⟩
    | cons r rs ih =>
      intro h
      have hr := h r (by simp)
      obtain ⟨a1, a2, a3⟩ := ih fun x hx => h x (List.mem_cons_of_mem _ hx)
      refine ⟨by simp only [D.okL, hr.fit.ok, a1, Bool.and_true], ?_, ?_⟩
      · have := hr.dp
        simp only [D.depL]
        omega
      · have := hr.w
        simp only [D.wL, List.length_cons]
        omega
  obtain ⟨a1, a2, a3⟩ := key rows g.row
  have hw : D.w (.tup rows) ≤ 16777216 := by show D.wL rows + 3 ≤ 16777216; omega
  have hd : (D.tup rows).dep ≤ 60 := by show D.depL rows + 1 ≤ 60; omega
  have ho : D.ok (.tup rows) = true := by
    simp only [D.ok, a1, Bool.and_true, Bool.and_eq_true, decide_eq_true_eq, Bool.or_eq_true]
    exact ⟨by omega, .inr (by omega)⟩
  exact shown_ok hd ho hw
def lapI (ns : List Int) (ρ : Ev) : Prop := ∃ z2 z6 z7 z8, ρ = [.v (.scr ns), .v (.obj 0), z2, .no, .no, .no, z6, z7, z8, .no]
theorem gen_lap {ns : List Int} {z2 z6 z7 z8 : Sl} : Gen (lw1b [.v (.scr ns), .v (.obj 0), z2, .no, .no, .no, z6, z7, z8, .no]) fun c => ∃ ρ, c = .nx ρ ∧ lapI ns ρ := by
  have hr : ∀ b : Bool, tTru (eC (.bl b)) [] = .ret b := fun _ => rfl
  unfold lw1b
  simp only [runB, startE, sSeq, sIf, sRet, sSet, sPar, sNil, sDrop, eBin, eUn, eC, eVar, eAnd, eOr, eNot, notD, eF, eCL, L1, L1N, nCL, aCons, aNil, eTup, nLst, eN, tV, tTru, asB, tru, tOrM, tAndM, tNotM, eIf, eSl, pSome, pNo, nUn, M.retb, List.map_cons, List.map_nil, List.length_cons, List.length_nil, List.replicate, List.cons_append, List.nil_append, List.getElem?_cons_zero, List.getElem?_cons_succ, List.set_cons_zero, List.set_cons_succ, M.bind_assoc, if_true, zl, Nat.reduceAdd, Nat.reduceLeDiff, iAny, itM, iR1, iR2, iEnumM, sOwn, sFrz, sFrzD, sSetL, sAug, addA, subA, eFd, eFp, lV, lO, lNil, lD0, sPar2, sPar3, sAsg]
  refine Gen.bind gen_page fun d ⟨rows, cut, e, g, hc⟩ => ?_
  subst e
  obtain ⟨z, hz⟩ := page_repr g
  have r1 := is_right_eq g (cs_one hc)
  simp only [List.map_cons, List.map_nil] at r1
  have gt : (gTn 2 (gAll1 (gN 6) (gAll1 (gN 7) gAll0))) (.tup [.tup rows, .int (cut : Int)]) [.v (.scr ns), .v (.obj 0), z2, .no, .no, .no, z6, z7, z8, .no] = some [.v (.scr ns), .v (.obj 0), z2, .no, .no, .no, .v (.tup rows), .v (.int (cut : Int)), z8, .no] := rfl
  simp only [runB, startE, sSeq, sIf, sRet, sSet, sPar, sNil, sDrop, eBin, eUn, eC, eVar, eAnd, eOr, eNot, notD, eF, eCL, L1, L1N, nCL, aCons, aNil, eTup, nLst, eN, tV, tTru, asB, tru, tOrM, tAndM, tNotM, eIf, eSl, pSome, pNo, nUn, M.retb, List.map_cons, List.map_nil, List.length_cons, List.length_nil, List.replicate, List.cons_append, List.nil_append, List.getElem?_cons_zero, List.getElem?_cons_succ, List.set_cons_zero, List.set_cons_succ, M.bind_assoc, if_true, zl, Nat.reduceAdd, Nat.reduceLeDiff, iAny, itM, iR1, iR2, iEnumM, sOwn, sFrz, sFrzD, sSetL, sAug, addA, subA, eFd, eFp, lV, lO, lNil, lD0, sPar2, sPar3, sAsg, gt, hz, r1, Bool.not_true]
  refine Gen.bind (gen_marks g.len hc) fun d ⟨ms, e, cs⟩ => ?_
  subst e
  have r2 : M__law_is_right [.tup rows, .tup (ms.map D.int)] = .ret (.bl true) := is_right_eq g cs
  simp only [runB, startE, sSeq, sIf, sRet, sSet, sPar, sNil, sDrop, eBin, eUn, eC, eVar, eAnd, eOr, eNot, notD, eF, eCL, L1, L1N, nCL, aCons, aNil, eTup, nLst, eN, tV, tTru, asB, tru, tOrM, tAndM, tNotM, eIf, eSl, pSome, pNo, nUn, M.retb, List.map_cons, List.map_nil, List.length_cons, List.length_nil, List.replicate, List.cons_append, List.nil_append, List.getElem?_cons_zero, List.getElem?_cons_succ, List.set_cons_zero, List.set_cons_succ, M.bind_assoc, if_true, zl, Nat.reduceAdd, Nat.reduceLeDiff, iAny, itM, iR1, iR2, iEnumM, sOwn, sFrz, sFrzD, sSetL, sAug, addA, subA, eFd, eFp, lV, lO, lNil, lD0, sPar2, sPar3, sAsg, r2, Bool.not_true, hz, ne_ss]
  exact Gen.ret ⟨_, rfl, z2, _, _, _, rfl⟩
theorem gen_laps (ns : List Int) : Gen (lw1 [.v (.scr ns), .v (.obj 0), .no, .no, .no, .no, .no, .no, .no, .no]) fun c => ∃ ρ, c = .nx ρ ∧ lapI ns ρ := by
  unfold lw1
  refine (gen_sFor (n := 3) (I := fun _ ρ => lapI ns ρ) ?_ ⟨_, _, _, _, rfl⟩ (fun _ _ _ _ h => h) fun m i ρ _ ⟨z2, z6, z7, z8, e⟩ => ?_).mono fun c h => h
  · refine Gen.of (a := rangeD 0 3) ?_ ⟨3, rfl, by decide, by decide⟩
    unfold iR1
    exact (M.ret_bind _ _).trans (rng1_i 3 (by decide) (by decide))
  · subst e
    exact ⟨_, rfl, gen_lap⟩
/-! ## the rows by hand -/
def rowsC : List D := [.tup [S "open", S "if"], .tup [S "open", S "if"], .tup [S "end"], .tup [S "stop"], .tup [S "open", S "if"], .tup [S "end"], .tup [S "end"], .tup [S "end"], .tup [S "end"], .tup [S "stop"]]
theorem rowsC_all : rowsC.all okR = true := by decide +kernel
theorem rowsC_pg : Pg rowsC := ⟨by decide, fun r hr => okR_row (List.all_eq_true.mp rowsC_all r hr)⟩
theorem cs_c (ms : List Int) (h1 : ms.Pairwise (· < ·) := by decide) (h2 : ∀ c ∈ ms, 0 ≤ c ∧ c ≤ ((10 : Nat) : Int) := by decide) (h3 : ms.length ≤ 900 := by decide) : Cs rowsC.length ms := ⟨h1, h2, h3⟩
theorem right_c (ms : List Int) (h : Cs rowsC.length ms) : M__law_is_right [.tup rowsC, .tup (ms.map D.int)] = .ret (.bl true) := is_right_eq rowsC_pg h
theorem sg_c : (List.range 8).map (fun i => sgN [2] 10 (2 + i)) = List.replicate 8 (some (2, 10)) := by decide +kernel
theorem en_c : (List.range 8).map (fun i => ends rowsC 2 i) = [0, 1, 1, 1, 1, 2, 3, 4] := by decide +kernel
theorem sg_at {i : Nat} (h : i < 8) : sgN [2] rowsC.length (2 + i) = some (2, 10) := by
  have e := congrArg (fun l : List (Option (Nat × Nat)) => l[i]?) sg_c
  simp only [List.getElem?_map, List.getElem?_range h, Option.map_some, List.getElem?_replicate, h, if_true] at e
  exact Option.some.inj e
theorem lay_c {i : Nat} (h : i < 8) : layD rowsC [2] (2 + i) = natD (ends rowsC 2 i) := by
  unfold layD
  rw [sg_at h]
  show natD (ends rowsC 2 (2 + i - 2)) = _
  rw [Nat.add_sub_cancel_left]
theorem rows_c : rwsD rowsC [2] 4 = .tup [.int 3, .int 4, .int 5, .int 6] := by
  have f : (List.range (10 - 2)).filter (fun i => decide (ends rowsC 2 i = ends rowsC 2 (4 - 2))) = [1, 2, 3, 4] := by decide +kernel
  have s := sg_at (i := 2) (by decide)
  unfold rwsD
  rw [s]
  show D.tup (((List.range (10 - 2)).filter (fun i => decide (ends rowsC 2 i = ends rowsC 2 (4 - 2)))).map _) = _
  rw [f]
  rfl
theorem told_c {ns : List Int} {z2 z4 z6 z7 z8 : Sl} : nComp [9] (iR2 (aCons (eC (.int 2)) (aCons (eC (.int 10)) aNil))) (gN 9) tYesM (eF 3 M_layer_of (aCons (eVar 3) (aCons (eTup (aCons (eC (.int 2)) aNil)) (aCons (eVar 9) aNil)))) [.v (.scr ns), .v (.obj 0), z2, .v (.tup rowsC), z4, .no, z6, z7, z8, .no]
    = .ret [.int 0, .int 1, .int 1, .int 1, .int 1, .int 2, .int 3, .int 4] := by
  have q := nComp_map (vs := [9]) (it := iR2 (aCons (eC (.int 2)) (aCons (eC (.int 10)) aNil))) (gm := gN 9) (em := eF 3 M_layer_of (aCons (eVar 3) (aCons (eTup (aCons (eC (.int 2)) aNil)) (aCons (eVar 9) aNil)))) (ρ := [.v (.scr ns), .v (.obj 0), z2, .v (.tup rowsC), z4, .no, z6, z7, z8, .no]) (ds := rangeD ((2 : Nat) : Int) 8) (fun d => match d with | .int j => layD rowsC [2] j.toNat | _ => .non)
    ((M.ret_bind _ _).trans (rng2_n 2 10 (by decide) (by decide))) (by rw [rangeD_len]; exact sz1000 (by decide)) fun d hd => by
      rw [rangeD_nat] at hd
      obtain ⟨i, hi, rfl⟩ := List.mem_map.mp hd
      have hi := List.mem_range.mp hi
      have e := layer_of_eq (k := 2 + i) rowsC_pg (cs_c [2]) (by show 2 + i < 10; omega)
      simp only [List.map_cons, List.map_nil] at e
      refine ⟨_, rfl, ?_⟩
      show (eF 3 M_layer_of (aCons (eVar 3) (aCons (eTup (aCons (eC (.int 2)) aNil)) (aCons (eVar 9) aNil)))) [.v (.scr ns), .v (.obj 0), z2, .v (.tup rowsC), z4, .no, z6, z7, z8, .v (.int ((2 + i : Nat) : Int))] = .ret (layD rowsC [2] (2 + i))
      simp only [runB, startE, sSeq, sIf, sRet, sSet, sPar, sNil, sDrop, eBin, eUn, eC, eVar, eAnd, eOr, eNot, notD, eF, eCL, L1, L1N, nCL, aCons, aNil, eTup, nLst, eN, tV, tTru, asB, tru, tOrM, tAndM, tNotM, eIf, eSl, pSome, pNo, nUn, M.retb, List.map_cons, List.map_nil, List.length_cons, List.length_nil, List.replicate, List.cons_append, List.nil_append, List.getElem?_cons_zero, List.getElem?_cons_succ, List.set_cons_zero, List.set_cons_succ, M.bind_assoc, if_true, zl, Nat.reduceAdd, Nat.reduceLeDiff, iAny, itM, iR1, iR2, iEnumM, sOwn, sFrz, sFrzD, sSetL, sAug, addA, subA, eFd, eFp, lV, lO, lNil, lD0, sPar2, sPar3, sAsg, e]
  rw [q, rangeD_nat, List.map_map]
  have e2 : List.map ((fun d : D => match d with | .int j => layD rowsC [2] j.toNat | _ => .non) ∘ fun i : Nat => D.int ((2 + i : Nat) : Int)) (List.range 8) = ((List.range 8).map (fun i => ends rowsC 2 i)).map natD := by
    rw [List.map_map]
    exact List.map_congr_left fun i hi => lay_c (List.mem_range.mp hi)
  rw [e2, en_c]
  rfl
theorem gen_rest {ns : List Int} {z2 z6 z7 z8 : Sl} : Gen (sSeq lw2 (sSeq lw3 (sSeq lw4 (sSeq lw5 lw6))) [.v (.scr ns), .v (.obj 0), z2, .no, .no, .no, z6, z7, z8, .no]) fun c => c = .rt (.bl true) := by
  refine Gen.seq (P := fun ρ => ρ = [.v (.scr ns), .v (.obj 0), z2, .v (.tup (rowsC.take 6)), .no, .no, z6, z7, z8, .no]) ?_ ?_
  · exact Gen.of (a := .nx [.v (.scr ns), .v (.obj 0), z2, .v (.tup (rowsC.take 6)), .no, .no, z6, z7, z8, .no]) rfl ⟨_, rfl, rfl⟩
  rintro ρ e
  subst e
  refine Gen.seq (P := fun ρ => ρ = [.v (.scr ns), .v (.obj 0), z2, .v (.tup rowsC), .no, .no, z6, z7, z8, .no]) ?_ ?_
  · exact Gen.of (a := .nx [.v (.scr ns), .v (.obj 0), z2, .v (.tup rowsC), .no, .no, z6, z7, z8, .no]) rfl ⟨_, rfl, rfl⟩
  rintro ρ e
  subst e
  refine Gen.seq (P := fun ρ => ∃ z4, ρ = [.v (.scr ns), .v (.obj 0), z2, .v (.tup rowsC), z4, .no, z6, z7, z8, .no]) ?_ ?_
  · unfold lw4 sFor
    refine Gen.bind (P := fun ds => ds = [[1], [2], [0, 5], [2, 4, 7], [10], []].map fun ms : List Int => D.tup (ms.map D.int)) (Gen.of rfl rfl) fun ds e => ?_
    subst e
    refine (gen_for (I := fun _ ρ => ∃ z4, ρ = [.v (.scr ns), .v (.obj 0), z2, .v (.tup rowsC), z4, .no, z6, z7, z8, .no]) _ 0 _ ⟨.no, rfl⟩ fun m d ρ hd _ ⟨z4, e⟩ => ?_).mono fun c ⟨ρ', e, h⟩ => ⟨ρ', e, h⟩
    subst e
    obtain ⟨ms, hms, rfl⟩ := List.mem_map.mp hd
    have cs : Cs rowsC.length ms := by
      simp only [List.mem_cons, List.not_mem_nil, or_false] at hms
      rcases hms with e | e | e | e | e | e <;> subst e <;> exact cs_c _
    refine ⟨_, rfl, ?_⟩
    have r := right_c ms cs
    unfold lw4b
    show Gen ((sIf _ _ _) [.v (.scr ns), .v (.obj 0), z2, .v (.tup rowsC), .v (.tup (ms.map D.int)), .no, z6, z7, z8, .no]) _
    simp only [runB, startE, sSeq, sIf, sRet, sSet, sPar, sNil, sDrop, eBin, eUn, eC, eVar, eAnd, eOr, eNot, notD, eF, eCL, L1, L1N, nCL, aCons, aNil, eTup, nLst, eN, tV, tTru, asB, tru, tOrM, tAndM, tNotM, eIf, eSl, pSome, pNo, nUn, M.retb, List.map_cons, List.map_nil, List.length_cons, List.length_nil, List.replicate, List.cons_append, List.nil_append, List.getElem?_cons_zero, List.getElem?_cons_succ, List.set_cons_zero, List.set_cons_succ, M.bind_assoc, if_true, zl, Nat.reduceAdd, Nat.reduceLeDiff, iAny, itM, iR1, iR2, iEnumM, sOwn, sFrz, sFrzD, sSetL, sAug, addA, subA, eFd, eFp, lV, lO, lNil, lD0, sPar2, sPar3, sAsg, r, Bool.not_true]
    exact Gen.ret ⟨_, rfl, _, rfl⟩
  rintro ρ ⟨z4, e⟩
  subst e
  refine Gen.seq (P := fun ρ => ρ = [.v (.scr ns), .v (.obj 0), z2, .v (.tup rowsC), z4, .v (.lst [.int 0, .int 1, .int 1, .int 1, .int 1, .int 2, .int 3, .int 4]), z6, z7, z8, .no]) ?_ ?_
  · unfold lw5
    simp only [sSetL, told_c, M.retb]
    exact Gen.ret ⟨_, rfl, rfl⟩
  rintro ρ e
  subst e
  have e1 : eqM (.lst [.int 0, .int 1, .int 1, .int 1, .int 1, .int 2, .int 3, .int 4]) (.lst [.int 0, .int 1, .int 1, .int 1, .int 1, .int 2, .int 3, .int 4]) = .ret (.bl true) := rfl
  have e2 := rows_of_layer_eq (k := 4) rowsC_pg (cs_c [2]) (by decide)
  rw [rows_c] at e2
  have e4 : ((4 : Nat) : Int) = 4 := rfl
  simp only [List.map_cons, List.map_nil, e4] at e2
  have e3 : eqM (.tup [.int 3, .int 4, .int 5, .int 6]) (.tup [.int 3, .int 4, .int 5, .int 6]) = .ret (.bl true) := rfl
  unfold lw6
  simp only [runB, startE, sSeq, sIf, sRet, sSet, sPar, sNil, sDrop, eBin, eUn, eC, eVar, eAnd, eOr, eNot, notD, eF, eCL, L1, L1N, nCL, aCons, aNil, eTup, nLst, eN, tV, tTru, asB, tru, tOrM, tAndM, tNotM, eIf, eSl, pSome, pNo, nUn, M.retb, List.map_cons, List.map_nil, List.length_cons, List.length_nil, List.replicate, List.cons_append, List.nil_append, List.getElem?_cons_zero, List.getElem?_cons_succ, List.set_cons_zero, List.set_cons_succ, M.bind_assoc, if_true, zl, Nat.reduceAdd, Nat.reduceLeDiff, iAny, itM, iR1, iR2, iEnumM, sOwn, sFrz, sFrzD, sSetL, sAug, addA, subA, eFd, eFp, lV, lO, lNil, lD0, sPar2, sPar3, sAsg, e1, e2, e3]
  exact Gen.ret rfl
/-! ## the feed, and the law -/
theorem feed_eq (ns : List Int) : M__law_feed [.scr ns] = .get fun S => .put (S ++ [.feed]) (.ret (.obj S.length)) := by
  have hs : sliceM none (some 63) (.scr ns) = .ret (.lst ((ns.take 63).map D.int)) := by
    show M.ret (D.lst (cutL (ns.map D.int) none (some 63))) = _
    rw [cut_to _ 63 (by decide), List.map_take]; rfl
  have hl : listN (.lst ((ns.take 63).map D.int)) = .ret ((ns.take 63).map D.int) := rfl
  unfold M__law_feed b__law_feed
  simp only [runB, startE, sSeq, sIf, sRet, sSet, sPar, sNil, sDrop, eBin, eUn, eC, eVar, eAnd, eOr, eNot, notD, eF, eCL, L1, L1N, nCL, aCons, aNil, eTup, nLst, eN, tV, tTru, asB, tru, tOrM, tAndM, tNotM, eIf, eSl, pSome, pNo, nUn, M.retb, List.map_cons, List.map_nil, List.length_cons, List.length_nil, List.replicate, List.cons_append, List.nil_append, List.getElem?_cons_zero, List.getElem?_cons_succ, List.set_cons_zero, List.set_cons_succ, M.bind_assoc, if_true, zl, Nat.reduceAdd, Nat.reduceLeDiff, iAny, itM, iR1, iR2, iEnumM, sOwn, sFrz, sFrzD, sSetL, sAug, addA, subA, eFd, eFp, lV, lO, lNil, lD0, sPar2, sPar3, sAsg, eFeed, hs, hl, intsOf_int]
  rfl
theorem seq_bind {m k : SM} {ρ : Ev} {x : M D} {g : D → Ev} (h : m ρ = (x >>= fun d => .ret (.nx (g d)))) : sSeq m k ρ = (x >>= fun d => k (g d)) := by
  unfold sSeq
  rw [h, M.bind_assoc]
  exact congrArg (fun f : D → M Ctl => x >>= f) (funext fun d => M.ret_bind _ _)
def lwR : SM := sSeq lw1 (sSeq lw2 (sSeq lw3 (sSeq lw4 (sSeq lw5 lw6))))
theorem lw_eq2 : b_law = sSeq lw0 lwR := lw_eq
def enL (ns : List Int) (d : D) : Ev := [.v (.scr ns), .v d, .no, .no, .no, .no, .no, .no, .no, .no]
theorem lw0_eq (ns : List Int) : lw0 [.v (.scr ns), .no, .no, .no, .no, .no, .no, .no, .no, .no] = (M__law_feed [.scr ns] >>= fun d => .ret (.nx (enL ns d))) := by
  unfold lw0 enL
  simp only [runB, startE, sSeq, sIf, sRet, sSet, sPar, sNil, sDrop, eBin, eUn, eC, eVar, eAnd, eOr, eNot, notD, eF, eCL, L1, L1N, nCL, aCons, aNil, eTup, nLst, eN, tV, tTru, asB, tru, tOrM, tAndM, tNotM, eIf, eSl, pSome, pNo, nUn, M.retb, List.map_cons, List.map_nil, List.length_cons, List.length_nil, List.replicate, List.cons_append, List.nil_append, List.getElem?_cons_zero, List.getElem?_cons_succ, List.set_cons_zero, List.set_cons_succ, M.bind_assoc, if_true, zl, Nat.reduceAdd, Nat.reduceLeDiff, iAny, itM, iR1, iR2, iEnumM, sOwn, sFrz, sFrzD, sSetL, sAug, addA, subA, eFd, eFp, lV, lO, lNil, lD0, sPar2, sPar3, sAsg]
theorem gen_lwR (ns : List Int) : Gen (lwR (enL ns (.obj 0))) fun c => c = .rt (.bl true) := by
  unfold lwR enL
  exact Gen.seq (gen_laps ns) fun ρ ⟨z2, z6, z7, z8, e⟩ => by subst e; exact gen_rest
theorem law_true (ns : List Int) : wp (M_law [.scr ns]) [] (fun d _ => d = .bl true) (fun _ _ => False) := by
  have h := (gen_lwR ns).run
  have hs : startE 10 [D.scr ns] = [.v (.scr ns), .no, .no, .no, .no, .no, .no, .no, .no, .no] := rfl
  unfold M_law runB
  rw [hs, lw_eq2, seq_bind (lw0_eq ns), feed_eq, wp_b, wp_b, wp_get, wp_put, wp_ret]
  refine wp_mono h (fun c S ⟨_, q⟩ => ?_) fun _ _ z => z
  subst q
  exact rfl
end G
theorem PySem.Challenge.cw_surelywrong_k34_segments_and_layers_holds : PySem.Challenge.rw_surelywrong_k34_segments_and_layers.Holds :=
  G.holds_of fun ns _ => G.law_true ns
