import PyProof.Rows.All
import Wide.All
import OpenK.AllK
import Wide.FinOn
import HandS.ForMost
import HandS.Exc
import HandS.WordsExc
import HandS.Defaults
import HandS.TupAny
import HandS.IsInst
import HandS.TupMul
import HandS.Deep
import HandS.Style
import HandS.SortInts
import HandS.RaiseMore
import PyProof.ReprRoads
import HandS.Zip
import HandS.Ends
import HandS.SetFor
import HandS.Strs
import PyProof.Rows.SetFrom
import HandS.HeadHook4
import HandS.EndBits
import KE.KStateDown
import PySem.Challenge.RW_surelywrong_k01_kinds_told
import HandS.Head0
import HandS.Head1
import HandS.Head2
import HandS.HeadEnd
import PyProof.FitsInt
import PyProof.StrLawsRepr
import PyProof.ReprLoop
set_option Elab.async false
set_option linter.all false
set_option maxRecDepth 100000
set_option maxHeartbeats 0
namespace F
open PySem PySem.Spec PyProof.Rows L2
/-! ## data -/
/-- a value as data; obj n: the n-th object of the store -/
inductive D where
  | non | bl (b : Bool) | int (i : Int) | str (x : Str)
  | tup (xs : List D) | lst (xs : List D) | dic (kvs : List (D × D)) | obj (n : Nat) | scr (ns : List Int)
/-- an exception as data: its class's name, its fields -/
structure Ex where
  cls : Str
  fs : List (Str × D)
/-- an object of the store -/
inductive OS where
  | feed
  | fd (cs : List Int) (sp lf tn : Int)
  | ins (cls : Str) (fs : List (Str × D))

/-! ## the monad -/
inductive M (α : Type) where
  | ret (a : α)
  | err (e : Ex)
  | bad
  | draw (o : Nat) (n : Int) (k : Int → M α)
  | get (k : List OS → M α)
  | put (s : List OS) (k : M α)
namespace M
variable {α β γ : Type}
def bind : M α → (α → M β) → M β
  | .ret a, f => f a
  | .err e, _ => .err e
  | .bad, _ => .bad
  | .draw o n k, f => .draw o n fun i => (k i).bind f
  | .get k, f => .get fun s => (k s).bind f
  | .put s k, f => .put s (k.bind f)
instance : Monad M where
  pure := .ret
  bind := bind
/-- an error becomes bad -/
def noerr : M α → M α
  | .ret a => .ret a
  | .err _ => .bad
  | .bad => .bad
  | .draw o n k => .draw o n fun i => (k i).noerr
  | .get k => .get fun s => (k s).noerr
  | .put s k => .put s k.noerr
@[simp] theorem ret_bind (a : α) (f : α → M β) : (M.ret a >>= f) = f a := rfl
@[simp] theorem pure_eq (a : α) : (pure a : M α) = M.ret a := rfl
@[simp] theorem err_bind (e : Ex) (f : α → M β) : ((M.err e : M α) >>= f) = M.err e := rfl
@[simp] theorem bad_bind (f : α → M β) : ((M.bad : M α) >>= f) = M.bad := rfl
theorem bind_def (m : M α) (f : α → M β) : (m >>= f) = m.bind f := rfl
theorem bind_assoc' (m : M α) (f : α → M β) (g : β → M γ) : (m.bind f).bind g = m.bind fun a => (f a).bind g := by
  induction m with
  | ret a => rfl
  | err e => rfl
  | bad => rfl
  | draw o n k ih => simp only [bind]; congr 1; funext i; exact ih i
  | get k ih => simp only [bind]; congr 1; funext i; exact ih i
  | put s k ih => simp only [bind]; rw [ih]
theorem bind_assoc (m : M α) (f : α → M β) (g : β → M γ) : ((m >>= f) >>= g) = (m >>= fun a => f a >>= g) := bind_assoc' m f g
theorem bind_ret (m : M α) : (m >>= M.ret) = m := by
  show m.bind M.ret = m
  induction m with
  | ret a => rfl
  | err e => rfl
  | bad => rfl
  | draw o n k ih => simp only [bind]; congr 1; funext i; exact ih i
  | get k ih => simp only [bind]; congr 1; funext i; exact ih i
  | put s k ih => simp only [bind]; rw [ih]
end M
/-- what must hold ahead -/
def wp {α : Type} : M α → List OS → (α → List OS → Prop) → (Ex → List OS → Prop) → Prop
  | .ret a, s, Q, _ => Q a s
  | .err e, s, _, E => E e s
  | .bad, _, _, _ => False
  | .draw o n k, s, Q, E => (∃ x, s[o]? = some x ∧ x = OS.feed) ∧ 0 < n ∧ n < 1073741824 ∧ ∀ i, 0 ≤ i → i < n → wp (k i) s Q E
  | .get k, s, Q, E => wp (k s) s Q E
  | .put s' k, _, Q, E => wp k s' Q E
section
variable {α β : Type} {s : List OS} {Q Q' : α → List OS → Prop} {E E' : Ex → List OS → Prop}
theorem wp_mono : ∀ {m : M α} {s : List OS}, wp m s Q E → (∀ a s, Q a s → Q' a s) → (∀ e s, E e s → E' e s) → wp m s Q' E' := by
  intro m
  induction m with
  | ret a => intro s h hq he; exact hq _ _ h
  | err e => intro s h hq he; exact he _ _ h
  | bad => intro s h hq he; exact h
  | draw o n k ih => intro s h hq he; exact ⟨h.1, h.2.1, h.2.2.1, fun i h0 h1 => ih i (h.2.2.2 i h0 h1) hq he⟩
  | get k ih => intro s h hq he; exact ih s h hq he
  | put s k ih => intro _ h hq he; exact ih h hq he
theorem wp_bind {f : α → M β} {Q : β → List OS → Prop} : ∀ {m : M α} {s : List OS}, wp (m >>= f) s Q E ↔ wp m s (fun a s' => wp (f a) s' Q E) E := by
  intro m
  induction m with
  | ret a => intro s; exact Iff.rfl
  | err e => intro s; exact Iff.rfl
  | bad => intro s; exact Iff.rfl
  | draw o n k ih => intro s; exact ⟨fun h => ⟨h.1, h.2.1, h.2.2.1, fun i h0 h1 => (ih i).mp (h.2.2.2 i h0 h1)⟩, fun h => ⟨h.1, h.2.1, h.2.2.1, fun i h0 h1 => (ih i).mpr (h.2.2.2 i h0 h1)⟩⟩
  | get k ih => intro s; exact ih s
  | put s k ih => intro _; exact ih
theorem wp_noerr : ∀ {m : M α} {s : List OS}, wp m.noerr s Q E ↔ wp m s Q (fun _ _ => False) := by
  intro m
  induction m with
  | ret a => intro s; exact Iff.rfl
  | err e => intro s; exact Iff.rfl
  | bad => intro s; exact Iff.rfl
  | draw o n k ih => intro s; exact ⟨fun h => ⟨h.1, h.2.1, h.2.2.1, fun i h0 h1 => (ih i).mp (h.2.2.2 i h0 h1)⟩, fun h => ⟨h.1, h.2.1, h.2.2.1, fun i h0 h1 => (ih i).mpr (h.2.2.2 i h0 h1)⟩⟩
  | get k ih => intro s; exact ih s
  | put s k ih => intro _; exact ih
end

/-! ## data in the heap -/
def kD : Key → D
  | .inl i => .int i
  | .inr x => .str x
mutual
inductive Rep (K : PySem.W.Frag) (F : Hp) (θ : List Addr) : V → D → Prop
  | non : Rep K F θ .non .non
  | bl (b : Bool) : Rep K F θ (.bl b) (.bl b)
  | int (i : Int) : Rep K F θ (.int i) (.int i)
  | str (x : Str) : Rep K F θ (.str x) (.str x)
  | tup {a : Addr} {xs : List V} {ds : List D} : SqT K F a xs → RepL K F θ xs ds → Rep K F θ (.ref a) (.tup ds)
  | lst {a : Addr} {xs : List V} {ds : List D} : F a = some (.lst xs) → RepL K F θ xs ds → Rep K F θ (.ref a) (.lst ds)
  | dic {a : Addr} {kvs : List (Key × V)} {ds : List (D × D)} : F a = some (.dK kvs) → RepK K F θ kvs ds → Rep K F θ (.ref a) (.dic ds)
  | obj {a : Addr} {n : Nat} : θ[n]? = some a → Rep K F θ (.ref a) (.obj n)
  | scr {a : Addr} {ns : List Int} : SqL K F a (ns.map V.int) → Rep K F θ (.ref a) (.scr ns)
inductive RepL (K : PySem.W.Frag) (F : Hp) (θ : List Addr) : List V → List D → Prop
  | nil : RepL K F θ [] []
  | cons {v : V} {d : D} {vs : List V} {ds : List D} : Rep K F θ v d → RepL K F θ vs ds → RepL K F θ (v :: vs) (d :: ds)
inductive RepK (K : PySem.W.Frag) (F : Hp) (θ : List Addr) : List (Key × V) → List (D × D) → Prop
  | nil : RepK K F θ [] []
  | cons {k : Key} {v : V} {d : D} {vs : List (Key × V)} {ds : List (D × D)} : Rep K F θ v d → RepK K F θ vs ds → RepK K F θ ((k, v) :: vs) ((kD k, d) :: ds)
end
theorem Rd.sub {F H : Hp} (h : ∀ a o, F a = some o → H a = some o) {a : Addr} {u : HO} (r : Rd F a u) : Rd H a u := by
  rcases r with r | ⟨o, r⟩
  · exact .inl (h _ _ r)
  · exact .inr ⟨o, h _ _ r⟩
theorem SqL.sub {K : PySem.W.Frag} {F H : Hp} (h : ∀ a o, F a = some o → H a = some o) {a : Addr} {xs : List V} (r : SqL K F a xs) : SqL K H a xs := by
  rcases r with r | r
  · exact .inl (Rd.sub h r)
  · exact .inr r
theorem SqT.sub {K : PySem.W.Frag} {F H : Hp} (h : ∀ a o, F a = some o → H a = some o) {a : Addr} {xs : List V} (r : SqT K F a xs) : SqT K H a xs := by
  rcases r with r | r
  · exact .inl (Rd.sub h r)
  · exact .inr r
mutual
theorem Rep.mono {K : PySem.W.Frag} {F F' : Hp} {θ θ' : List Addr} : ∀ {v : V} {d : D}, Rep K F θ v d → (hF : ∀ a o, F a = some o → F' a = some o) → (hθ : ∀ (n : Nat) (a : Addr), θ[n]? = some a → θ'[n]? = some a) → Rep K F' θ' v d
  | _, _, .non, _, _ => .non
  | _, _, .bl b, _, _ => .bl b
  | _, _, .int i, _, _ => .int i
  | _, _, .str x, _, _ => .str x
  | _, _, .tup h r, hF, hθ => .tup (SqT.sub hF h) (RepL.mono r hF hθ)
  | _, _, .lst h r, hF, hθ => .lst (hF _ _ h) (RepL.mono r hF hθ)
  | _, _, .dic h r, hF, hθ => .dic (hF _ _ h) (RepK.mono r hF hθ)
  | _, _, .obj h, _, hθ => .obj (hθ _ _ h)
  | _, _, .scr h, hF, _ => .scr (SqL.sub hF h)
theorem RepL.mono {K : PySem.W.Frag} {F F' : Hp} {θ θ' : List Addr} : ∀ {vs : List V} {ds : List D}, RepL K F θ vs ds → (hF : ∀ a o, F a = some o → F' a = some o) → (hθ : ∀ (n : Nat) (a : Addr), θ[n]? = some a → θ'[n]? = some a) → RepL K F' θ' vs ds
  | _, _, .nil, _, _ => .nil
  | _, _, .cons h r, hF, hθ => .cons (Rep.mono h hF hθ) (RepL.mono r hF hθ)
theorem RepK.mono {K : PySem.W.Frag} {F F' : Hp} {θ θ' : List Addr} : ∀ {vs : List (Key × V)} {ds : List (D × D)}, RepK K F θ vs ds → (hF : ∀ a o, F a = some o → F' a = some o) → (hθ : ∀ (n : Nat) (a : Addr), θ[n]? = some a → θ'[n]? = some a) → RepK K F' θ' vs ds
  | _, _, .nil, _, _ => .nil
  | _, _, .cons h r, hF, hθ => .cons (Rep.mono h hF hθ) (RepK.mono r hF hθ)
end
section
variable {K : PySem.W.Frag} {F : Hp} {θ : List Addr}
theorem RepL.length {vs : List V} {ds : List D} (r : RepL K F θ vs ds) : vs.length = ds.length := by
  induction ds generalizing vs with
  | nil => cases r; rfl
  | cons d ds ih => cases r with | cons h r => simp [ih r]
theorem RepL.get {vs : List V} {ds : List D} {i : Nat} {d : D} (r : RepL K F θ vs ds) (e : ds[i]? = some d) : ∃ v, vs[i]? = some v ∧ Rep K F θ v d := by
  induction ds generalizing vs i with
  | nil => simp at e
  | cons d' ds ih =>
    cases r with
    | cons h r =>
      cases i with
      | zero => simp at e; subst e; exact ⟨_, rfl, h⟩
      | succ i => simpa using ih r (by simpa using e)
theorem RepL.getV {vs : List V} {ds : List D} {i : Nat} {v : V} (r : RepL K F θ vs ds) (e : vs[i]? = some v) : ∃ d, ds[i]? = some d ∧ Rep K F θ v d := by
  induction ds generalizing vs i with
  | nil => cases r; simp at e
  | cons d' ds ih =>
    cases r with
    | cons h r =>
      cases i with
      | zero => simp at e; subst e; exact ⟨_, rfl, h⟩
      | succ i => simpa using ih r (by simpa using e)
theorem RepL.append {vs ws : List V} {ds es : List D} (r : RepL K F θ vs ds) (q : RepL K F θ ws es) : RepL K F θ (vs ++ ws) (ds ++ es) := by
  induction ds generalizing vs with
  | nil => cases r; exact q
  | cons d ds ih => cases r with | cons h r => exact .cons h (ih r)
theorem RepL.take {vs : List V} {ds : List D} (n : Nat) (r : RepL K F θ vs ds) : RepL K F θ (vs.take n) (ds.take n) := by
  induction ds generalizing vs n with
  | nil => cases r; simp; exact .nil
  | cons d ds ih =>
    cases r with
    | cons h r =>
      cases n with
      | zero => exact .nil
      | succ n => exact .cons h (ih n r)
theorem RepL.drop {vs : List V} {ds : List D} (n : Nat) (r : RepL K F θ vs ds) : RepL K F θ (vs.drop n) (ds.drop n) := by
  induction ds generalizing vs n with
  | nil => cases r; simp; exact .nil
  | cons d ds ih =>
    cases r with
    | cons h r =>
      cases n with
      | zero => exact .cons h r
      | succ n => exact ih n r
theorem RepL.reverse {vs : List V} {ds : List D} (r : RepL K F θ vs ds) : RepL K F θ vs.reverse ds.reverse := by
  induction ds generalizing vs with
  | nil => cases r; exact .nil
  | cons d ds ih =>
    cases r with
    | cons h r =>
      rw [List.reverse_cons, List.reverse_cons]
      exact (ih r).append (.cons h .nil)
theorem RepL.set {vs : List V} {ds : List D} {v : V} {d : D} (n : Nat) (r : RepL K F θ vs ds) (h : Rep K F θ v d) : RepL K F θ (vs.set n v) (ds.set n d) := by
  induction ds generalizing vs n with
  | nil => cases r; exact .nil
  | cons d ds ih =>
    cases r with
    | cons h' r =>
      cases n with
      | zero => exact .cons h r
      | succ n => exact .cons h' (ih n r)
end

/-! ## the state -/
/-- the ghost: the part of the heap that stays, the store's addresses -/
structure Gw where
  F : Hp
  θ : List Addr
def feedKVs (c : Addr) (sp lf tn : Int) : List (Key × V) := [(.inr "cells", .ref c), (.inr "spot", .int sp), (.inr "left", .int lf), (.inr "turns", .int tn)]
def OSOk (K : PySem.W.Frag) (g : Gw) (H : Hp) (a : Addr) : OS → Prop
  | .feed => ∃ (c : Addr) (cs : List Int) (sp lf tn : Int), H a = some (.dK (feedKVs c sp lf tn)) ∧ g.F c = some (.lst (cs.map V.int))
  | .fd cs sp lf tn => ∃ c : Addr, H a = some (.dK (feedKVs c sp lf tn)) ∧ g.F c = some (.lst (cs.map V.int))
  | .ins _ _ => False
structure StOk (K : PySem.W.Frag) (S : List OS) (g : Gw) (H : Hp) : Prop where
  sub : ∀ a o, g.F a = some o → H a = some o
  mt : ∀ a ∈ g.θ, g.F a = none
  len : S.length = g.θ.length
  nd : g.θ.Nodup
  obj : ∀ (n : Nat) (a : Addr) (o : OS), g.θ[n]? = some a → S[n]? = some o → OSOk K g H a o
structure Grow (g : Gw) (H : Hp) (g' : Gw) (H' : Hp) : Prop where
  dom : ∀ a, H' a = none → H a = none
  keep : ∀ a o, H a = some o → a ∉ g.θ → H' a = some o
  th : ∃ ext, g'.θ = g.θ ++ ext ∧ ∀ a ∈ ext, H a = none
  fm : ∀ a o, g.F a = some o → g'.F a = some o
  fn : ∀ a o, g'.F a = some o → g.F a = some o ∨ H a = none
/-- what stays, stays -/
structure Ext (g g' : Gw) : Prop where
  fm : ∀ a o, g.F a = some o → g'.F a = some o
  thm : ∀ (n : Nat) (x : Addr), g.θ[n]? = some x → g'.θ[n]? = some x
theorem Ext.refl {g : Gw} : Ext g g := ⟨fun _ _ h => h, fun _ _ h => h⟩
theorem Ext.trans {g g1 g2 : Gw} (a : Ext g g1) (b : Ext g1 g2) : Ext g g2 := ⟨fun x o h => b.fm x o (a.fm x o h), fun n x h => b.thm n x (a.thm n x h)⟩
section
variable {K : PySem.W.Frag} {S : List OS} {g g1 g2 : Gw} {H H1 H2 : Hp}
theorem Grow.refl : Grow g H g H := ⟨fun _ h => h, fun _ _ h _ => h, ⟨[], by simp, by simp⟩, fun _ _ h => h, fun _ _ h => .inl h⟩
theorem Grow.trans (a : Grow g H g1 H1) (b : Grow g1 H1 g2 H2) : Grow g H g2 H2 := by
  obtain ⟨e1, h1, n1⟩ := a.th
  obtain ⟨e2, h2, n2⟩ := b.th
  refine ⟨fun x h => a.dom x (b.dom x h), fun x o h hx => b.keep x o (a.keep x o h hx) ?_, ⟨e1 ++ e2, by rw [h2, h1, List.append_assoc], fun x hx => ?_⟩, fun x o h => b.fm x o (a.fm x o h), fun x o h => ?_⟩
  · rw [h1, List.mem_append]
    rintro (z | z)
    · exact hx z
    · rw [n1 x z] at h; cases h
  · rcases List.mem_append.mp hx with z | z
    · exact n1 x z
    · exact a.dom x (n2 x z)
  · rcases b.fn x o h with z | z
    · exact a.fn x o z
    · exact .inr (a.dom x z)
theorem Grow.thm (a : Grow g H g1 H1) : ∀ (n : Nat) (x : Addr), g.θ[n]? = some x → g1.θ[n]? = some x := fun n x h => by
  obtain ⟨e1, h1, _⟩ := a.th
  have hl : n < g.θ.length := (List.getElem?_eq_some_iff.mp h).1
  rw [h1, List.getElem?_append_left hl]
  exact h
theorem Grow.ext (a : Grow g H g1 H1) : Ext g g1 := ⟨a.fm, a.thm⟩
theorem Ext.rep (a : Ext g g1) {v : V} {d : D} (r : Rep K g.F g.θ v d) : Rep K g1.F g1.θ v d := r.mono a.fm a.thm
theorem Ext.repL (a : Ext g g1) {v : List V} {d : List D} (r : RepL K g.F g.θ v d) : RepL K g1.F g1.θ v d := r.mono a.fm a.thm
theorem Grow.rep (a : Grow g H g1 H1) {v : V} {d : D} (r : Rep K g.F g.θ v d) : Rep K g1.F g1.θ v d := r.mono a.fm a.thm
theorem Grow.repL (a : Grow g H g1 H1) {v : List V} {d : List D} (r : RepL K g.F g.θ v d) : RepL K g1.F g1.θ v d := r.mono a.fm a.thm
theorem OSOk.mono {a : Addr} {o : OS} (h : OSOk K g H a o) (e : H1 a = H a) (f : ∀ a o, g.F a = some o → g1.F a = some o) : OSOk K g1 H1 a o := by
  cases o with
  | feed =>
    obtain ⟨c, cs, sp, lf, tn, h1, h2⟩ := h
    exact ⟨c, cs, sp, lf, tn, by rw [e]; exact h1, f _ _ h2⟩
  | fd cs sp lf tn =>
    obtain ⟨c, h1, h2⟩ := h
    exact ⟨c, by rw [e]; exact h1, f _ _ h2⟩
  | ins c fs => exact h
theorem StOk.there (ok : StOk K S g H) {a : Addr} (h : a ∈ g.θ) : ∃ o, H a = some o := by
  obtain ⟨n, hn, e⟩ := List.mem_iff_getElem.mp h
  have hs : n < S.length := by rw [ok.len]; exact hn
  have q := ok.obj n a S[n] (by rw [List.getElem?_eq_getElem hn, e]) (List.getElem?_eq_getElem hs)
  cases hS : S[n] with
  | feed => rw [hS] at q; obtain ⟨c, cs, sp, lf, tn, h1, _⟩ := q; exact ⟨_, h1⟩
  | fd cs sp lf tn => rw [hS] at q; obtain ⟨c, h1, _⟩ := q; exact ⟨_, h1⟩
  | ins c fs => rw [hS] at q; exact q.elim
/-- a new thing that stays -/
theorem StOk.laid (ok : StOk K S g H) {p : Addr} {o : HO} (hp : H p = none) : StOk K S ⟨upd g.F p o, g.θ⟩ (upd H p o) ∧ Grow g H ⟨upd g.F p o, g.θ⟩ (upd H p o) := by
  have hF : g.F p = none := by
    cases e : g.F p with
    | none => rfl
    | some x => rw [ok.sub _ _ e] at hp; cases hp
  have np : ∀ a ∈ g.θ, a ≠ p := fun a ha e => by
    obtain ⟨o, h⟩ := ok.there ha
    rw [e, hp] at h; cases h
  refine ⟨⟨fun a x h => ?_, fun a h => ?_, ok.len, ok.nd, fun n a x h1 h2 => (ok.obj n a x h1 h2).mono ?_ fun b y h => ?_⟩, ⟨fun a h => ?_, fun a x h _ => ?_, ⟨[], by simp, by simp⟩, fun a x h => ?_, fun a x h => ?_⟩⟩
  · have h : upd g.F p o a = some x := h
    by_cases e : a = p
    · subst e; rw [upd_same] at h ⊢; exact h
    · rw [upd_ne e] at h ⊢; exact ok.sub _ _ h
  · show upd g.F p o a = none
    rw [upd_ne (np a h)]; exact ok.mt a h
  · exact upd_ne (np a (List.mem_of_getElem? h1))
  · show upd g.F p o b = some y
    rw [upd_ne (ne_of_none h hF)]; exact h
  · by_cases e : a = p
    · subst e; exact hp
    · rw [upd_ne e] at h; exact h
  · rw [upd_ne (ne_of_none h hp)]; exact h
  · show upd g.F p o a = some x
    rw [upd_ne (ne_of_none h hF)]; exact h
  · by_cases e : a = p
    · subst e; exact .inr hp
    · have h : upd g.F p o a = some x := h
      rw [upd_ne e] at h; exact .inl h
/-- a new thing that may still change -/
theorem StOk.made (ok : StOk K S g H) {p : Addr} {o : HO} (hp : H p = none) : StOk K S g (upd H p o) ∧ Grow g H g (upd H p o) ∧ g.F p = none ∧ p ∉ g.θ := by
  have hF : g.F p = none := by
    cases e : g.F p with
    | none => rfl
    | some x => rw [ok.sub _ _ e] at hp; cases hp
  have np : ∀ a ∈ g.θ, a ≠ p := fun a ha e => by
    obtain ⟨o, h⟩ := ok.there ha
    rw [e, hp] at h; cases h
  refine ⟨⟨fun a x h => ?_, ok.mt, ok.len, ok.nd, fun n a x h1 h2 => (ok.obj n a x h1 h2).mono (upd_ne (np a (List.mem_of_getElem? h1))) fun b y h => h⟩, ⟨fun a h => ?_, fun a x h _ => ?_, ⟨[], by simp, by simp⟩, fun a x h => h, fun a x h => .inl h⟩, hF, fun h => np p h rfl⟩
  · rw [upd_ne (ne_of_none h hF)]; exact ok.sub _ _ h
  · by_cases e : a = p
    · subst e; exact hp
    · rw [upd_ne e] at h; exact h
  · rw [upd_ne (ne_of_none h hp)]; exact h
/-- one's own thing changes -/
theorem StOk.wrote (ok : StOk K S g H) {p : Addr} {o o' : HO} (hp : H p = some o) (hF : g.F p = none) (hθ : p ∉ g.θ) : StOk K S g (upd H p o') := by
  refine ⟨fun a x h => ?_, ok.mt, ok.len, ok.nd, fun n a x h1 h2 => (ok.obj n a x h1 h2).mono (upd_ne fun e => hθ (by rw [← e]; exact List.mem_of_getElem? h1)) fun b y h => h⟩
  rw [upd_ne (ne_of_none h hF)]; exact ok.sub _ _ h
/-- one's own thing stays from now on -/
theorem StOk.froze (ok : StOk K S g H) {p : Addr} {o : HO} (hp : H p = some o) (hF : g.F p = none) (hθ : p ∉ g.θ) : StOk K S ⟨upd g.F p o, g.θ⟩ H := by
  refine ⟨fun a x h => ?_, fun a h => ?_, ok.len, ok.nd, fun n a x h1 h2 => (ok.obj n a x h1 h2).mono rfl fun b y h => ?_⟩
  · by_cases e : a = p
    · subst e
      have h : upd g.F a o a = some x := h
      rw [upd_same] at h; rw [hp]; exact h
    · have h : upd g.F p o a = some x := h
      rw [upd_ne e] at h; exact ok.sub _ _ h
  · show upd g.F p o a = none
    rw [upd_ne fun e => hθ (by rw [← e]; exact h)]; exact ok.mt a h
  · show upd g.F p o b = some y
    rw [upd_ne (ne_of_none h hF)]; exact h
theorem upd_fm {F : Hp} {p : Addr} {o : HO} (hF : F p = none) : ∀ a x, F a = some x → upd F p o a = some x := fun a x h => by
  rw [upd_ne (ne_of_none h hF)]; exact h
end

/-! ## the slots -/
inductive Sl where
  | no
  | v (d : D)
  | own (ds : List D)
  | ownd (kvs : List (D × D))
def Sl.isOwn : Sl → Bool
  | .own _ => true
  | .ownd _ => true
  | _ => false
abbrev Ev := List Sl
def OwnAt (g : Gw) (L : Addr → Prop) (a : Addr) : Prop := L a ∧ g.F a = none ∧ a ∉ g.θ
def SlOk (K : PySem.W.Frag) (L : Addr → Prop) (g : Gw) (H : Hp) : Option V → Sl → Prop
  | _, .no => True
  | sv, .v d => ∃ v, sv = some v ∧ Rep K g.F g.θ v d
  | sv, .own ds => ∃ a vs, sv = some (.ref a) ∧ H a = some (.lst vs) ∧ RepL K g.F g.θ vs ds ∧ OwnAt g L a
  | sv, .ownd kvs => ∃ a vs, sv = some (.ref a) ∧ H a = some (.dK vs) ∧ RepK K g.F g.θ vs kvs ∧ OwnAt g L a
structure EnvOk (K : PySem.W.Frag) (L : Addr → Prop) (g : Gw) (H : Hp) (σ : L2.St) (ρ : Ev) : Prop where
  len : σ.length = ρ.length
  ok : ∀ (i : Nat) sv sl, σ[i]? = some sv → ρ[i]? = some sl → SlOk K L g H sv sl
  dis : ∀ (i j : Nat) (a : Addr) x y, i ≠ j → σ[i]? = some (some (.ref a)) → σ[j]? = some (some (.ref a)) → ρ[i]? = some x → ρ[j]? = some y → x.isOwn = true → y.isOwn = true → False
section
variable {K : PySem.W.Frag} {L : Addr → Prop} {S : List OS} {g g1 g2 : Gw} {H H1 H2 : Hp} {σ : L2.St} {ρ : Ev}
theorem OwnAt.grow {a : Addr} (h : OwnAt g L a) {o : HO} (ho : H a = some o) (gr : Grow g H g1 H1) : OwnAt g1 L a := by
  refine ⟨h.1, ?_, fun z => ?_⟩
  · cases e : g1.F a with
    | none => rfl
    | some x =>
      rcases gr.fn _ _ e with q | q
      · rw [h.2.1] at q; cases q
      · rw [ho] at q; cases q
  · obtain ⟨ext, e, n⟩ := gr.th
    rw [e, List.mem_append] at z
    rcases z with z | z
    · exact h.2.2 z
    · rw [n a z] at ho; cases ho
theorem RepK.grow (a : Grow g H g1 H1) {v : List (Key × V)} {d : List (D × D)} (r : RepK K g.F g.θ v d) : RepK K g1.F g1.θ v d := r.mono a.fm a.thm
theorem EnvOk.grow (en : EnvOk K L g H σ ρ) (gr : Grow g H g1 H1) : EnvOk K L g1 H1 σ ρ := by
  refine ⟨en.len, fun i sv sl h1 h2 => ?_, en.dis⟩
  have q := en.ok i sv sl h1 h2
  cases sl with
  | no => trivial
  | v d => obtain ⟨v, e, r⟩ := q; exact ⟨v, e, gr.rep r⟩
  | own ds => obtain ⟨a, vs, e, h, r, o⟩ := q; exact ⟨a, vs, e, gr.keep _ _ h o.2.2, gr.repL r, o.grow h gr⟩
  | ownd ds => obtain ⟨a, vs, e, h, r, o⟩ := q; exact ⟨a, vs, e, gr.keep _ _ h o.2.2, RepK.grow gr r, o.grow h gr⟩
theorem EnvOk.imp {L' : Addr → Prop} (en : EnvOk K L g H σ ρ) (h : ∀ a, L a → L' a) : EnvOk K L' g H σ ρ := by
  refine ⟨en.len, fun i sv sl h1 h2 => ?_, en.dis⟩
  have q := en.ok i sv sl h1 h2
  cases sl with
  | no => trivial
  | v d => exact q
  | own ds => obtain ⟨a, vs, e, h', r, o⟩ := q; exact ⟨a, vs, e, h', r, h _ o.1, o.2⟩
  | ownd ds => obtain ⟨a, vs, e, h', r, o⟩ := q; exact ⟨a, vs, e, h', r, h _ o.1, o.2⟩
/-- a slot gets a value -/
theorem EnvOk.setv (en : EnvOk K L g H σ ρ) (i : Nat) {v : V} {d : D} (r : Rep K g.F g.θ v d) : EnvOk K L g H (σ.set i (some v)) (ρ.set i (.v d)) := by
  refine ⟨by simp [en.len], fun j sv sl h1 h2 => ?_, fun j k a x y hjk h1 h2 h3 h4 h5 h6 => ?_⟩
  · by_cases e : i = j
    · subst e
      have hl : i < σ.length := by
        have := (List.getElem?_eq_some_iff.mp h1).1
        simpa using this
      rw [List.getElem?_set_self hl] at h1
      rw [List.getElem?_set_self (by rw [← en.len]; exact hl)] at h2
      cases h1; cases h2
      exact ⟨v, rfl, r⟩
    · rw [List.getElem?_set_ne e] at h1 h2
      exact en.ok j sv sl h1 h2
  · have key : ∀ (m : Nat) (z : Sl), (ρ.set i (.v d))[m]? = some z → z.isOwn = true → m ≠ i ∧ ρ[m]? = some z := fun m z h ho => by
      by_cases e : i = m
      · subst e
        have hl : i < ρ.length := by
          have := (List.getElem?_eq_some_iff.mp h).1
          simpa using this
        rw [List.getElem?_set_self hl] at h
        cases h; cases ho
      · rw [List.getElem?_set_ne e] at h
        exact ⟨Ne.symm e, h⟩
    obtain ⟨n1, q1⟩ := key j x h3 h5
    obtain ⟨n2, q2⟩ := key k y h4 h6
    rw [List.getElem?_set_ne (Ne.symm n1)] at h1
    rw [List.getElem?_set_ne (Ne.symm n2)] at h2
    exact en.dis j k a x y hjk h1 h2 q1 q2 h5 h6
end

/-! ## the readings -/
section
variable (K : PySem.W.Frag) (mg : Str → Option Value)
/-- the fields of an exception's own dict -/
inductive RepF (K : PySem.W.Frag) (F : Hp) (θ : List Addr) : List (Str × V) → List (Str × D) → Prop
  | nil : RepF K F θ [] []
  | cons {x : Str} {v : V} {d : D} {vs ds} : Rep K F θ v d → RepF K F θ vs ds → RepF K F θ ((x, v) :: vs) ((x, d) :: ds)
def ExR (x : Ex) (g : Gw) (H : Hp) (c : Value) (dx : Option Addr) : Prop :=
  ∃ C a fs, mg x.cls = some (.ref C) ∧ c = .ref C ∧ dx = some a ∧ H a = some (.xd fs) ∧ RepF K g.F g.θ fs x.fs
def VP (g : Gw) (H : Hp) (Q : VK) : D → List OS → Prop := fun d S' => ∀ g' H' v, Grow g H g' H' → StOk K S' g' H' → Rep K g'.F g'.θ v d → Q v H'
def XP (g : Gw) (H : Hp) (E : XK) : Ex → List OS → Prop := fun x S' => ∀ g' H' c dx, Grow g H g' H' → StOk K S' g' H' → ExR K mg x g' H' c dx → E c dx H'
def tE (E : XK) (m : Ev → M D) : TE := fun σ H Q => ∃ g S ρ L, StOk K S g H ∧ EnvOk K L g H σ ρ ∧ wp (m ρ) S (VP K g H Q) (XP K mg g H E)
def BP (g : Gw) (H : Hp) (Q : Bool → Hp → Prop) : Bool → List OS → Prop := fun b S' => ∀ g' H', Grow g H g' H' → StOk K S' g' H' → Q b H'
def tT (E : XK) (m : Ev → M Bool) : TT := fun σ H Q => ∃ g S ρ L, StOk K S g H ∧ EnvOk K L g H σ ρ ∧ wp (m ρ) S (BP K g H Q) (XP K mg g H E)
def LP (g : Gw) (H : Hp) (Q : List V → Hp → Prop) : List D → List OS → Prop := fun ds S' => ∀ g' H' vs, Grow g H g' H' → StOk K S' g' H' → RepL K g'.F g'.θ vs ds → Q vs H'
def tA (E : XK) (m : Ev → M (List D)) : TA := fun σ H Q => ∃ g S ρ L, StOk K S g H ∧ EnvOk K L g H σ ρ ∧ wp (m ρ) S (LP K g H Q) (XP K mg g H E)
/-- a new list, not yet given away -/
def NP (g : Gw) (H : Hp) (Q : VK) : List D → List OS → Prop := fun ds S' => ∀ g' H' a vs, Grow g H g' H' → StOk K S' g' H' → H a = none → H' a = some (.lst vs) → g'.F a = none → a ∉ g'.θ → RepL K g'.F g'.θ vs ds → Q (.ref a) H'
def tN (E : XK) (m : Ev → M (List D)) : TE := fun σ H Q => ∃ g S ρ L, StOk K S g H ∧ EnvOk K L g H σ ρ ∧ wp (m ρ) S (NP K g H Q) (XP K mg g H E)
/-- by values -/
def rD1 (E : XK) (m : D → M D) : V → Hp → VK → Prop := fun x H Q => ∃ g S d, StOk K S g H ∧ Rep K g.F g.θ x d ∧ wp (m d) S (VP K g H Q) (XP K mg g H E)
def rD2 (E : XK) (m : D → D → M D) : R2 := fun x y H Q => ∃ g S d e, StOk K S g H ∧ Rep K g.F g.θ x d ∧ Rep K g.F g.θ y e ∧ wp (m d e) S (VP K g H Q) (XP K mg g H E)
def rDL (E : XK) (m : List D → M D) : List V → Hp → VK → Prop := fun xs H Q => ∃ g S ds, StOk K S g H ∧ RepL K g.F g.θ xs ds ∧ wp (m ds) S (VP K g H Q) (XP K mg g H E)
def rDN (E : XK) (m : List D → M (List D)) : List V → Hp → VK → Prop := fun xs H Q => ∃ g S ds, StOk K S g H ∧ RepL K g.F g.θ xs ds ∧ wp (m ds) S (NP K g H Q) (XP K mg g H E)
/-- statements -/
inductive Ctl where
  | nx (ρ : Ev) | rt (d : D) | bk (ρ : Ev) | ct (ρ : Ev)
def CP (g0 : Gw) (H0 : Hp) (g : Gw) (W : Ends) : Ctl → List OS → Prop
  | .nx ρ, S' => ∀ g' H' σ', Grow g0 H0 g' H' → Ext g g' → StOk K S' g' H' → EnvOk K (fun a => H0 a = none) g' H' σ' ρ → W.nx σ' H'
  | .bk ρ, S' => ∀ g' H' σ', Grow g0 H0 g' H' → Ext g g' → StOk K S' g' H' → EnvOk K (fun a => H0 a = none) g' H' σ' ρ → W.bk σ' H'
  | .ct ρ, S' => ∀ g' H' σ', Grow g0 H0 g' H' → Ext g g' → StOk K S' g' H' → EnvOk K (fun a => H0 a = none) g' H' σ' ρ → W.ct σ' H'
  | .rt d, S' => ∀ g' H' v, Grow g0 H0 g' H' → StOk K S' g' H' → Rep K g'.F g'.θ v d → W.rt v H'
abbrev SM := Ev → M Ctl
def tS (g0 : Gw) (H0 : Hp) (E : XK) (m : SM) : TS := fun W σ H => ∃ g S ρ, Grow g0 H0 g H ∧ StOk K S g H ∧ EnvOk K (fun a => H0 a = none) g H σ ρ ∧ wp (m ρ) S (CP K g0 H0 g W) (XP K mg g0 H0 E)
end
section
variable {K : PySem.W.Frag} {mg : Str → Option Value} {g g1 : Gw} {H H1 : Hp} {S : List OS}
theorem VP.grow {Q : VK} {d : D} (h : VP K g H Q d S) (gr : Grow g H g1 H1) : VP K g1 H1 Q d S := fun g' H' v a b c => h g' H' v (gr.trans a) b c
theorem BP.grow {Q : Bool → Hp → Prop} {d : Bool} (h : BP K g H Q d S) (gr : Grow g H g1 H1) : BP K g1 H1 Q d S := fun g' H' a b => h g' H' (gr.trans a) b
theorem LP.grow {Q : List V → Hp → Prop} {d : List D} (h : LP K g H Q d S) (gr : Grow g H g1 H1) : LP K g1 H1 Q d S := fun g' H' v a b c => h g' H' v (gr.trans a) b c
theorem NP.grow {Q : VK} {d : List D} (h : NP K g H Q d S) (gr : Grow g H g1 H1) : NP K g1 H1 Q d S := fun g' H' a vs x1 x2 x3 => h g' H' a vs (gr.trans x1) x2 (gr.dom _ x3)
theorem XP.grow {E : XK} {x : Ex} (h : XP K mg g H E x S) (gr : Grow g H g1 H1) : XP K mg g1 H1 E x S := fun g' H' c dx a b r => h g' H' c dx (gr.trans a) b r
theorem CP.ext {g0 : Gw} {H0 : Hp} {W : Ends} {c : Ctl} (h : CP K g0 H0 g W c S) (x : Ext g g1) : CP K g0 H0 g1 W c S := by
  cases c with
  | nx ρ => exact fun g' H' σ' a b => h g' H' σ' a (x.trans b)
  | bk ρ => exact fun g' H' σ' a b => h g' H' σ' a (x.trans b)
  | ct ρ => exact fun g' H' σ' a b => h g' H' σ' a (x.trans b)
  | rt d => exact h
/-- a new list is a value -/
theorem NP.toV {Q : VK} {ds : List D} (h : VP K g H Q (.lst ds) S) : NP K g H Q ds S := fun g' H' a vs gr ok hn ha hF hθ r => by
  have ok2 := ok.froze ha hF hθ
  refine h ⟨upd g'.F a (.lst vs), g'.θ⟩ H' (.ref a) ⟨gr.dom, gr.keep, gr.th, fun b o e => upd_fm hF b o (gr.fm b o e), fun b o e => ?_⟩ ok2 (.lst upd_same (r.mono (upd_fm hF) fun _ _ z => z))
  by_cases hb : b = a
  · subst hb; exact .inr hn
  · have e : upd g'.F a (.lst vs) b = some o := e
    rw [upd_ne hb] at e; exact gr.fn b o e
end
end F
namespace F
open PySem PySem.Spec PyProof.Rows L2
/-! ## data: equality -/
mutual
def D.py : D → Option PyData
  | .non => some .none
  | .bl b => some (.bool b)
  | .int i => some (.int i)
  | .str x => some (.str x)
  | .tup xs => match D.pyL xs with
    | some ys => some (.tuple ys)
    | none => none
  | .lst xs => match D.pyL xs with
    | some ys => some (.list ys)
    | none => none
  | .dic _ => none
  | .obj _ => none
  | .scr _ => none
def D.pyL : List D → Option (List PyData)
  | [] => some []
  | x :: xs => match D.py x, D.pyL xs with
    | some y, some ys => some (y :: ys)
    | _, _ => none
end
mutual
/-- == of Python -/
def D.eqv : D → D → Bool
  | .non, .non => true
  | .bl a, .bl b => a == b
  | .bl a, .int j => (if a then 1 else 0) == j
  | .int i, .bl b => i == (if b then 1 else 0)
  | .int i, .int j => i == j
  | .str x, .str y => x == y
  | .lst xs, .lst ys => D.eqvL xs ys
  | .tup xs, .tup ys => D.eqvL xs ys
  | _, _ => false
def D.eqvL : List D → List D → Bool
  | [], [] => true
  | x :: xs, y :: ys => D.eqv x y && D.eqvL xs ys
  | _, _ => false
end
mutual
/-- nesting -/
def D.dep : D → Nat
  | .lst xs => D.depL xs + 1
  | .tup xs => D.depL xs + 1
  | _ => 0
def D.depL : List D → Nat
  | [] => 0
  | x :: xs => max (D.dep x) (D.depL xs)
end
mutual
/-- plain data: no dicts, no objects, sound texts -/
def D.pl : D → Bool
  | .str x => PyData.strOk x
  | .lst xs => D.plL xs
  | .tup xs => D.plL xs
  | .dic _ => false
  | .obj _ => false
  | .scr _ => false
  | _ => true
def D.plL : List D → Bool
  | [] => true
  | x :: xs => D.pl x && D.plL xs
end
/-- data that may be compared -/
def D.sh (d : D) : Bool := d.pl && decide (d.dep ≤ 64)
mutual
theorem D.py_pl : ∀ d : D, d.pl = true → ∃ p, d.py = some p ∧ p.canLay0 = true ∧ p.depth = d.dep
  | .non, _ => ⟨_, rfl, rfl, rfl⟩
  | .bl _, _ => ⟨_, rfl, rfl, rfl⟩
  | .int _, _ => ⟨_, rfl, rfl, rfl⟩
  | .str x, h => ⟨_, rfl, by simpa [D.pl, PyData.canLay0] using h, rfl⟩
  | .tup xs, h => by
    obtain ⟨ps, e, c, z⟩ := D.pyL_pl xs (by simpa [D.pl] using h)
    exact ⟨.tuple ps, by simp [D.py, e], by simpa [PyData.canLay0] using c, by simp [PyData.depth, D.dep, z]⟩
  | .lst xs, h => by
    obtain ⟨ps, e, c, z⟩ := D.pyL_pl xs (by simpa [D.pl] using h)
    exact ⟨.list ps, by simp [D.py, e], by simpa [PyData.canLay0] using c, by simp [PyData.depth, D.dep, z]⟩
  | .dic _, h => by simp [D.pl] at h
  | .obj _, h => by simp [D.pl] at h
  | .scr _, h => by simp [D.pl] at h
theorem D.pyL_pl : ∀ ds : List D, D.plL ds = true → ∃ ps, D.pyL ds = some ps ∧ PyData.canLayAll0 ps = true ∧ PyData.depthAll ps = D.depL ds
  | [], _ => ⟨[], rfl, rfl, rfl⟩
  | d :: ds, h => by
    have h' : d.pl = true ∧ D.plL ds = true := by simpa [D.plL] using h
    obtain ⟨p, e, c, z⟩ := D.py_pl d h'.1
    obtain ⟨ps, es, cs, zs⟩ := D.pyL_pl ds h'.2
    exact ⟨p :: ps, by simp [D.pyL, e, es], by simp [PyData.canLayAll0, c, cs], by simp [PyData.depthAll, D.depL, z, zs]⟩
end
theorem D.py_sh {d : D} (h : d.sh = true) : ∃ p, d.py = some p ∧ SeqAt.shaped p = true := by
  have h' : d.pl = true ∧ d.dep ≤ 64 := by simpa [D.sh] using h
  obtain ⟨p, e, c, z⟩ := D.py_pl d h'.1
  exact ⟨p, e, by simp [SeqAt.shaped, c, z, h'.2]⟩
theorem D.pyL_cons {d : D} {ds : List D} {q : List PyData} (h : D.pyL (d :: ds) = some q) : ∃ p ps, D.py d = some p ∧ D.pyL ds = some ps ∧ q = p :: ps := by
  unfold D.pyL at h
  cases e1 : D.py d with
  | none => rw [e1] at h; cases h
  | some p =>
    cases e2 : D.pyL ds with
    | none => rw [e1, e2] at h; cases h
    | some ps => rw [e1, e2] at h; exact ⟨p, ps, rfl, rfl, (Option.some.inj h).symm⟩
theorem D.py_tup {ds : List D} {q : PyData} (h : D.py (.tup ds) = some q) : ∃ ps, D.pyL ds = some ps ∧ q = .tuple ps := by
  unfold D.py at h
  cases e : D.pyL ds with
  | none => rw [e] at h; cases h
  | some ps => rw [e] at h; exact ⟨ps, rfl, (Option.some.inj h).symm⟩
theorem D.py_lst {ds : List D} {q : PyData} (h : D.py (.lst ds) = some q) : ∃ ps, D.pyL ds = some ps ∧ q = .list ps := by
  unfold D.py at h
  cases e : D.pyL ds with
  | none => rw [e] at h; cases h
  | some ps => rw [e] at h; exact ⟨ps, rfl, (Option.some.inj h).symm⟩
mutual
theorem D.eqv_py : ∀ (d e : D) (p q : PyData), d.py = some p → e.py = some q → D.eqv d e = PyData.eqv p q
  | .non, e, p, q, h1, h2 => by
    cases h1
    cases e with
    | tup ys => obtain ⟨ps, _, rfl⟩ := D.py_tup h2; rfl
    | lst ys => obtain ⟨ps, _, rfl⟩ := D.py_lst h2; rfl
    | dic _ => cases h2
    | obj _ => cases h2
    | scr _ => cases h2
    | _ => cases h2; rfl
  | .bl b, e, p, q, h1, h2 => by
    cases h1
    cases e with
    | tup ys => obtain ⟨ps, _, rfl⟩ := D.py_tup h2; rfl
    | lst ys => obtain ⟨ps, _, rfl⟩ := D.py_lst h2; rfl
    | dic _ => cases h2
    | obj _ => cases h2
    | scr _ => cases h2
    | _ => cases h2; rfl
  | .int i, e, p, q, h1, h2 => by
    cases h1
    cases e with
    | tup ys => obtain ⟨ps, _, rfl⟩ := D.py_tup h2; rfl
    | lst ys => obtain ⟨ps, _, rfl⟩ := D.py_lst h2; rfl
    | dic _ => cases h2
    | obj _ => cases h2
    | scr _ => cases h2
    | _ => cases h2; rfl
  | .str x, e, p, q, h1, h2 => by
    cases h1
    cases e with
    | tup ys => obtain ⟨ps, _, rfl⟩ := D.py_tup h2; rfl
    | lst ys => obtain ⟨ps, _, rfl⟩ := D.py_lst h2; rfl
    | dic _ => cases h2
    | obj _ => cases h2
    | scr _ => cases h2
    | _ => cases h2; rfl
  | .tup xs, e, p, q, h1, h2 => by
    obtain ⟨ps, e1, rfl⟩ := D.py_tup h1
    cases e with
    | tup ys =>
      obtain ⟨qs, e2, rfl⟩ := D.py_tup h2
      show D.eqvL xs ys = PyData.eqvAll ps qs
      exact D.eqvL_py xs ys ps qs e1 e2
    | lst ys => obtain ⟨qs, _, rfl⟩ := D.py_lst h2; rfl
    | dic _ => cases h2
    | obj _ => cases h2
    | scr _ => cases h2
    | _ => cases h2; rfl
  | .lst xs, e, p, q, h1, h2 => by
    obtain ⟨ps, e1, rfl⟩ := D.py_lst h1
    cases e with
    | lst ys =>
      obtain ⟨qs, e2, rfl⟩ := D.py_lst h2
      show D.eqvL xs ys = PyData.eqvAll ps qs
      exact D.eqvL_py xs ys ps qs e1 e2
    | tup ys => obtain ⟨qs, _, rfl⟩ := D.py_tup h2; rfl
    | dic _ => cases h2
    | obj _ => cases h2
    | scr _ => cases h2
    | _ => cases h2; rfl
  | .dic _, _, _, _, h1, _ => by cases h1
  | .obj _, _, _, _, h1, _ => by cases h1
  | .scr _, _, _, _, h1, _ => by cases h1
theorem D.eqvL_py : ∀ (ds es : List D) (ps qs : List PyData), D.pyL ds = some ps → D.pyL es = some qs → D.eqvL ds es = PyData.eqvAll ps qs
  | [], [], ps, qs, h1, h2 => by cases h1; cases h2; rfl
  | [], e :: es, ps, qs, h1, h2 => by cases h1; obtain ⟨q, qs', _, _, rfl⟩ := D.pyL_cons h2; rfl
  | d :: ds, [], ps, qs, h1, h2 => by cases h2; obtain ⟨q, qs', _, _, rfl⟩ := D.pyL_cons h1; rfl
  | d :: ds, e :: es, ps, qs, h1, h2 => by
    obtain ⟨p, ps', a1, a2, rfl⟩ := D.pyL_cons h1
    obtain ⟨q, qs', b1, b2, rfl⟩ := D.pyL_cons h2
    show (D.eqv d e && D.eqvL ds es) = (PyData.eqv p q && PyData.eqvAll ps' qs')
    rw [D.eqv_py d e p q a1 b1, D.eqvL_py ds es ps' qs' a2 b2]
end
mutual
theorem Rep.dp {K : PySem.W.Frag} {F H : Hp} {θ : List Addr} (hF : ∀ a o, F a = some o → H a = some o) : ∀ {v : V} {d : D} {p : PyData}, Rep K F θ v d → d.py = some p → Dp K H v p
  | _, _, _, .non, h => by cases h; exact .non
  | _, _, _, .bl b, h => by cases h; exact .bl b
  | _, _, _, .int i, h => by cases h; exact .int i
  | _, _, _, .str x, h => by cases h; exact .str x
  | _, _, _, .tup s r, h => by obtain ⟨ps, e, rfl⟩ := D.py_tup h; exact .tup (SqT.sub hF s) (RepL.dp hF r e)
  | _, _, _, .lst s r, h => by obtain ⟨ps, e, rfl⟩ := D.py_lst h; exact .lst (SqL.of (hF _ _ s)) (RepL.dp hF r e)
  | _, _, _, .dic _ _, h => by cases h
  | _, _, _, .obj _, h => by cases h
  | _, _, _, .scr _, h => by cases h
theorem RepL.dp {K : PySem.W.Frag} {F H : Hp} {θ : List Addr} (hF : ∀ a o, F a = some o → H a = some o) : ∀ {v : List V} {d : List D} {p : List PyData}, RepL K F θ v d → D.pyL d = some p → DpAll K H v p
  | _, _, _, .nil, h => by cases h; exact .nil
  | _, _, _, .cons r rs, h => by
    obtain ⟨p, ps, e1, e2, rfl⟩ := D.pyL_cons h
    exact .cons (Rep.dp hF r e1) (RepL.dp hF rs e2)
end

/-! ## rules: the general forms -/
section
variable {X : Cx} {E : XK}
/-- what a body's context gives -/
structure Good (X : Cx) (E : XK) : Prop where
  calm : X.calm = true
  nd : X.N.Nodup
  tk : Takes X (fun c d _ H => E c d H)
theorem pe_weak {e : Expr} {t t' : TE} (h : PE X e t) (w : ∀ σ H Q, t' σ H Q → t σ H Q) : PE X e t' := ⟨fun pins s σ H Q I q => h.run pins s σ H Q I (w σ H Q q)⟩
theorem pt_weak {e : Expr} {t t' : TT} (h : PT X e t) (w : ∀ σ H Q, t' σ H Q → t σ H Q) : PT X e t' := ⟨fun pins s σ H Q I q => h.run pins s σ H Q I (w σ H Q q)⟩
theorem pa_weak {e : List Expr} {t t' : TA} (h : PA X e t) (w : ∀ σ H Q, t' σ H Q → t σ H Q) : PA X e t' := ⟨fun pos pins s σ H Q I q => h.run pos pins s σ H Q I (w σ H Q q)⟩
theorem ps_weak {e : Stmt} {t t' : TS} (h : PS X e t) (w : ∀ W σ H, t' W σ H → t W σ H) : PS X e t' := ⟨fun pins s σ H W I q => h.run pins s σ H W I (w W σ H q)⟩
theorem pss_weak {e : List Stmt} {t t' : TS} (h : PSs X e t) (w : ∀ W σ H, t' W σ H → t W σ H) : PSs X e t' := ⟨fun pins s σ H W I q => h.run pins s σ H W I (w W σ H q)⟩
abbrev RE (X : Cx) (E : XK) (e : Expr) (m : Ev → M D) : Prop := PE X e (tE X.K X.mg E m)
abbrev RN (X : Cx) (E : XK) (e : Expr) (m : Ev → M (List D)) : Prop := PE X e (tN X.K X.mg E m)
abbrev RT (X : Cx) (E : XK) (e : Expr) (m : Ev → M Bool) : Prop := PT X e (tT X.K X.mg E m)
abbrev RA (X : Cx) (E : XK) (e : List Expr) (m : Ev → M (List D)) : Prop := PA X e (tA X.K X.mg E m)

variable {a b c : Expr} {ma mb mc : Ev → M D} {pos : Pos}
/-! ### names, constants -/
def eVar (i : Nat) : Ev → M D := fun ρ => match ρ[i]? with
  | some (.v d) => .ret d
  | _ => .bad
def eC (d : D) : Ev → M D := fun _ => .ret d
theorem slot_of {K : PySem.W.Frag} {L : Addr → Prop} {g : Gw} {H : Hp} {σ : L2.St} {ρ : Ev} (en : EnvOk K L g H σ ρ) {i : Nat} {sl : Sl} (h : ρ[i]? = some sl) : ∃ sv, σ[i]? = some sv ∧ SlOk K L g H sv sl := by
  have hl : i < σ.length := by rw [en.len]; exact (List.getElem?_eq_some_iff.mp h).1
  exact ⟨σ[i], List.getElem?_eq_getElem hl, en.ok i _ _ (List.getElem?_eq_getElem hl) h⟩
theorem re_var (i : Nat) {x : Str} (hN : X.N[i]? = some x := by rfl) (hv : Vis X.env.scope x := by first | exact Or.inl rfl | exact Or.inr (Or.inl rfl) | exact Or.inr (Or.inr rfl)) (hd : (x == ("__debug__" : Str)) = false := by decide)
    (hcd : (x == ("__classdict__" : Str)) = false := by decide) : RE X E (.Name x pos) (eVar i) := by
  refine pe_weak (pe_var hN hv hd hcd) fun σ H Q ⟨g, S, ρ, L, ok, en, h⟩ => ?_
  unfold eVar at h
  split at h
  · rename_i d e
    obtain ⟨sv, h1, v, rfl, r⟩ := slot_of en e
    exact ⟨v, h1, h g H v .refl ok r⟩
  · exact h.elim
theorem re_c {e : Expr} {v : V} {d : D} (h : PE X e (tC v)) (r : ∀ F θ, Rep X.K F θ v d) : RE X E e (eC d) :=
  pe_weak h fun σ H Q ⟨g, S, ρ, L, ok, en, h⟩ => h g H v .refl ok (r _ _)
theorem re_int {i j} : RE X E (.Constant (.int i) j pos) (eC (.int i)) := re_c pe_int fun _ _ => .int i
theorem re_bl {i j} : RE X E (.Constant (.bool i) j pos) (eC (.bl i)) := re_c pe_bl fun _ _ => .bl i
theorem re_non {j} : RE X E (.Constant .none j pos) (eC .non) := re_c pe_non fun _ _ => .non
theorem re_str {i j} : RE X E (.Constant (.str i) j pos) (eC (.str i)) := re_c pe_str fun _ _ => .str i
/-- a constant of the module -/
theorem re_glob {x : Str} {v : V} {u : Value} {d : D} (hg : Gl X x) (hm : X.mg x = some u) (r : RelV v u) (rp : ∀ F θ, Rep X.K F θ v d) (hd : (x == ("__debug__" : Str)) = false := by decide) : RE X E (.Name x pos) (eC d) := re_c (pe_glob hg hm r hd) rp

/-! ### two parts in a row -/
theorem two {ta tb : TE} {ma mb : Ev → M D} (hta : ∀ σ H Q, tE X.K X.mg E ma σ H Q → ta σ H Q) (htb : ∀ σ H Q, tE X.K X.mg E mb σ H Q → tb σ H Q) {om : D → D → M D} {r : R2} (hr : ∀ x y H Q, rD2 X.K X.mg E om x y H Q → r x y H Q) {σ : L2.St} {H : Hp} {Q : VK}
    (h : tE X.K X.mg E (fun ρ => ma ρ >>= fun x => mb ρ >>= fun y => om x y) σ H Q) : ta σ H fun x H1 => tb σ H1 fun y H2 => r x y H2 Q := by
  obtain ⟨g, S, ρ, L, ok, en, h⟩ := h
  refine hta _ _ _ ⟨g, S, ρ, L, ok, en, wp_mono (wp_bind.mp h) (fun d1 S1 h1 g1 H1 v1 gr1 ok1 r1 => htb _ _ _ ⟨g1, S1, ρ, L, ok1, en.grow gr1, ?_⟩) fun _ _ z => z⟩
  refine wp_mono (wp_bind.mp h1) (fun d2 S2 h2 g2 H2 v2 gr2 ok2 r2 => hr _ _ _ _ ⟨g2, S2, d1, d2, ok2, gr2.rep r1, r2, ?_⟩) fun _ _ z => z.grow gr1
  exact wp_mono h2 (fun _ _ z => z.grow (gr1.trans gr2)) fun _ _ z => z.grow (gr1.trans gr2)
def eBin (om : D → D → M D) (ma mb : Ev → M D) : Ev → M D := fun ρ => ma ρ >>= fun x => mb ρ >>= fun y => om x y
theorem re_bin {op : Operator} {om : D → D → M D} (ho : OpR X (binaryOp op) (rD2 X.K X.mg E om)) (ha : RE X E a ma) (hb : RE X E b mb) : RE X E (.BinOp a op b pos) (eBin om ma mb) :=
  pe_weak (pe_op ho ha hb) fun σ H Q h => two (fun _ _ _ z => z) (fun _ _ _ z => z) (fun _ _ _ _ z => z) h
theorem re_cmp {op : CmpOp} {om : D → D → M D} (ho : OpR X (compareOp op) (rD2 X.K X.mg E om)) (ha : RE X E a ma) (hb : RE X E b mb) (hm : behindInMarks op b = false := by first | exact nomark _ | rfl) : RE X E (.Compare a [op] [b] pos) (eBin om ma mb) :=
  pe_weak (pe_cmpR ho ha hb hm) fun σ H Q h => two (fun _ _ _ z => z) (fun _ _ _ z => z) (fun _ _ _ _ z => z) h
def eUn (om : D → M D) (ma : Ev → M D) : Ev → M D := fun ρ => ma ρ >>= om
theorem one {ta : TE} {ma : Ev → M D} (hta : ∀ σ H Q, tE X.K X.mg E ma σ H Q → ta σ H Q) {om : D → M D} {r : V → Hp → VK → Prop} (hr : ∀ x H Q, rD1 X.K X.mg E om x H Q → r x H Q) {σ : L2.St} {H : Hp} {Q : VK}
    (h : tE X.K X.mg E (eUn om ma) σ H Q) : ta σ H fun x H1 => r x H1 Q := by
  obtain ⟨g, S, ρ, L, ok, en, h⟩ := h
  refine hta _ _ _ ⟨g, S, ρ, L, ok, en, wp_mono (wp_bind.mp h) (fun d1 S1 h1 g1 H1 v1 gr1 ok1 r1 => hr _ _ _ ⟨g1, S1, d1, ok1, r1, ?_⟩) fun _ _ z => z⟩
  exact wp_mono h1 (fun _ _ z => z.grow gr1) fun _ _ z => z.grow gr1
theorem re_un {op : UnaryOp} {om : D → M D} (ho : UnR X (unaryOp op) (rD1 X.K X.mg E om)) (ha : RE X E a ma) : RE X E (.UnaryOp op a pos) (eUn om ma) :=
  pe_weak (pe_un ho ha) fun σ H Q h => one (fun _ _ _ z => z) (fun _ _ _ z => z) h

/-! ### tests -/
/-- a value that is True or False, as a test -/
def asB : D → M Bool
  | .bl b => .ret b
  | _ => .bad
def tV (ma : Ev → M D) : Ev → M Bool := fun ρ => ma ρ >>= asB
theorem rt_val (ha : RE X E a ma) (he : ∀ whole, isTrue a X.env whole = (do let v ← whole; standAt a.pos; holding [v] (truthy v)) := by intro _; rfl) : RT X E a (tV ma) := by
  refine pt_weak (pt_val ha he) fun σ H Q ⟨g, S, ρ, L, ok, en, h⟩ => ⟨g, S, ρ, L, ok, en, ?_⟩
  refine wp_mono (wp_bind.mp h) (fun d S1 h1 g1 H1 v gr ok1 r => ?_) fun _ _ z => z
  cases d with
  | bl b => cases r; exact ⟨b, rfl, h1 g1 H1 gr ok1⟩
  | _ => exact h1.elim
/-- truth -/
def tru : D → M Bool
  | .non => .ret false
  | .bl b => .ret b
  | .int i => .ret (i != 0)
  | .str x => if x.length ≤ sizeLine then .ret (x.length != 0) else .bad
  | .tup xs => .ret (!xs.isEmpty)
  | .lst xs => .ret (!xs.isEmpty)
  | .dic xs => .ret (!xs.isEmpty)
  | .obj _ => .bad
  | .scr _ => .bad
def tTru (ma : Ev → M D) : Ev → M Bool := fun ρ => ma ρ >>= tru
theorem RepL.emp {K : PySem.W.Frag} {F : Hp} {θ : List Addr} {vs : List V} {ds : List D} (r : RepL K F θ vs ds) : vs.isEmpty = ds.isEmpty := by cases r <;> rfl
theorem RepK.emp {K : PySem.W.Frag} {F : Hp} {θ : List Addr} {vs : List (Key × V)} {ds : List (D × D)} (r : RepK K F θ vs ds) : vs.isEmpty = ds.isEmpty := by cases r <;> rfl
theorem rt_tru (ha : RE X E a ma) (he : ∀ whole, isTrue a X.env whole = (do let v ← whole; standAt a.pos; holding [v] (truthy v)) := by intro _; rfl) : RT X E a (tTru ma) := by
  refine pt_weak (pt_truth ha he) fun σ H Q ⟨g, S, ρ, L, ok, en, h⟩ => ⟨g, S, ρ, L, ok, en, ?_⟩
  refine wp_mono (wp_bind.mp h) (fun d S1 h1 g1 H1 v gr ok1 r => ?_) fun _ _ z => z
  cases r with
  | non => exact ⟨false, rfl, h1 g1 H1 gr ok1⟩
  | bl b => exact ⟨b, rfl, h1 g1 H1 gr ok1⟩
  | int i => exact ⟨_, rfl, h1 g1 H1 gr ok1⟩
  | str x =>
    have h1 : wp (if x.length ≤ sizeLine then M.ret (x.length != 0) else .bad) S1 (BP X.K g H Q) (XP X.K X.mg g H E) := h1
    by_cases hz : x.length ≤ sizeLine
    · rw [if_pos hz] at h1
      refine ⟨_, ⟨hz, rfl⟩, ?_⟩
      have e : ((x.length : Int) != 0) = (x.length != 0) := by
        rw [Bool.eq_iff_iff]; simp
      rw [e]; exact h1 g1 H1 gr ok1
    · rw [if_neg hz] at h1; exact h1.elim
  | tup s r => exact ⟨_, .inr (.inl ⟨_, SqT.sub ok1.sub s, rfl⟩), by rw [r.emp]; exact h1 g1 H1 gr ok1⟩
  | lst s r => exact ⟨_, .inl ⟨_, SqL.of (ok1.sub _ _ s), rfl⟩, by rw [r.emp]; exact h1 g1 H1 gr ok1⟩
  | dic s r => exact ⟨_, .inr (.inr ⟨_, ok1.sub _ _ s, rfl⟩), by rw [r.emp]; exact h1 g1 H1 gr ok1⟩
  | obj _ => exact h1.elim
  | scr _ => exact h1.elim
variable {tma tmb : Ev → M Bool} {rest : List Expr}
def tAndM (a b : Ev → M Bool) : Ev → M Bool := fun ρ => a ρ >>= fun c => match c with
  | true => b ρ
  | false => .ret false
def tOrM (a b : Ev → M Bool) : Ev → M Bool := fun ρ => a ρ >>= fun c => match c with
  | true => .ret true
  | false => b ρ
def tNotM (a : Ev → M Bool) : Ev → M Bool := fun ρ => a ρ >>= fun c => .ret (!c)
abbrev RW (X : Cx) (E : XK) (e : Expr) (m : Ev → M Bool) : Prop := PW X e (tT X.K X.mg E m)
theorem pw_weak {e : Expr} {t t' : TT} (h : PW X e t) (w : ∀ σ H Q, t' σ H Q → t σ H Q) : PW X e t' := ⟨fun wh pins s σ H Q I q => h.run wh pins s σ H Q I (w σ H Q q)⟩
theorem rw_and1 (ha : RT X E a tma) : RW X E (.BoolOp .And [a] pos) tma := pw_and1 ha
theorem rw_or1 (ha : RT X E a tma) : RW X E (.BoolOp .Or [a] pos) tma := pw_or1 ha
theorem rw_and (ha : RT X E a tma) (hb : RW X E (.BoolOp .And (b :: rest) pos) tmb) : RW X E (.BoolOp .And (a :: b :: rest) pos) (tAndM tma tmb) := by
  refine pw_weak (pw_and ha hb) fun σ H Q ⟨g, S, ρ, L, ok, en, h⟩ => ⟨g, S, ρ, L, ok, en, ?_⟩
  refine wp_mono (wp_bind.mp h) (fun c S1 h1 g1 H1 gr ok1 => ?_) fun _ _ z => z
  cases c with
  | true =>
    rw [if_pos rfl]
    exact ⟨g1, S1, ρ, L, ok1, en.grow gr, wp_mono h1 (fun _ _ z => z.grow gr) fun _ _ z => z.grow gr⟩
  | false => rw [if_neg (by decide)]; exact h1 g1 H1 gr ok1
theorem rw_or (ha : RT X E a tma) (hb : RW X E (.BoolOp .Or (b :: rest) pos) tmb) : RW X E (.BoolOp .Or (a :: b :: rest) pos) (tOrM tma tmb) := by
  refine pw_weak (pw_or ha hb) fun σ H Q ⟨g, S, ρ, L, ok, en, h⟩ => ⟨g, S, ρ, L, ok, en, ?_⟩
  refine wp_mono (wp_bind.mp h) (fun c S1 h1 g1 H1 gr ok1 => ?_) fun _ _ z => z
  cases c with
  | false =>
    rw [if_neg (by decide)]
    exact ⟨g1, S1, ρ, L, ok1, en.grow gr, wp_mono h1 (fun _ _ z => z.grow gr) fun _ _ z => z.grow gr⟩
  | true => rw [if_pos rfl]; exact h1 g1 H1 gr ok1
theorem rt_not (ha : RT X E a tma) : RT X E (.UnaryOp .Not a pos) (tNotM tma) := by
  refine pt_weak (pt_not ha) fun σ H Q ⟨g, S, ρ, L, ok, en, h⟩ => ⟨g, S, ρ, L, ok, en, ?_⟩
  exact wp_mono (wp_bind.mp h) (fun c S1 h1 => h1) fun _ _ z => z
theorem RW.rt {e : Expr} (h : RW X E e tma) : RT X E e tma := PW.pt h
/-- and, or, not as values -/
def eAnd (a b : Ev → M D) : Ev → M D := fun ρ => a ρ >>= fun c => match c with
  | .bl true => b ρ
  | .bl false => .ret (.bl false)
  | _ => .bad
def eOr (a b : Ev → M D) : Ev → M D := fun ρ => a ρ >>= fun c => match c with
  | .bl true => .ret (.bl true)
  | .bl false => b ρ
  | _ => .bad
def notD : D → M D
  | .bl b => .ret (.bl (!b))
  | _ => .bad
def eNot (a : Ev → M D) : Ev → M D := fun ρ => a ρ >>= notD
theorem re_one {op} (ha : RE X E a ma) : RE X E (.BoolOp op [a] pos) ma := pe_one ha
theorem re_and (ha : RE X E a ma) (hb : RE X E (.BoolOp .And (b :: rest) pos) mb) : RE X E (.BoolOp .And (a :: b :: rest) pos) (eAnd ma mb) := by
  refine pe_weak (pe_and ha hb) fun σ H Q ⟨g, S, ρ, L, ok, en, h⟩ => ⟨g, S, ρ, L, ok, en, ?_⟩
  refine wp_mono (wp_bind.mp h) (fun c S1 h1 g1 H1 v gr ok1 r => ?_) fun _ _ z => z
  cases c with
  | bl b =>
    cases r
    refine ⟨b, rfl, ?_⟩
    cases b with
    | true =>
      rw [if_pos rfl]
      exact ⟨g1, S1, ρ, L, ok1, en.grow gr, wp_mono h1 (fun _ _ z => z.grow gr) fun _ _ z => z.grow gr⟩
    | false => rw [if_neg (by decide)]; exact h1 g1 H1 _ gr ok1 (.bl false)
  | _ => exact h1.elim
theorem re_or (ha : RE X E a ma) (hb : RE X E (.BoolOp .Or (b :: rest) pos) mb) : RE X E (.BoolOp .Or (a :: b :: rest) pos) (eOr ma mb) := by
  refine pe_weak (pe_or ha hb) fun σ H Q ⟨g, S, ρ, L, ok, en, h⟩ => ⟨g, S, ρ, L, ok, en, ?_⟩
  refine wp_mono (wp_bind.mp h) (fun c S1 h1 g1 H1 v gr ok1 r => ?_) fun _ _ z => z
  cases c with
  | bl b =>
    cases r
    refine ⟨b, rfl, ?_⟩
    cases b with
    | false =>
      rw [if_neg (by decide)]
      exact ⟨g1, S1, ρ, L, ok1, en.grow gr, wp_mono h1 (fun _ _ z => z.grow gr) fun _ _ z => z.grow gr⟩
    | true => rw [if_pos rfl]; exact h1 g1 H1 _ gr ok1 (.bl true)
  | _ => exact h1.elim
theorem re_not (ha : RE X E a ma) : RE X E (.UnaryOp .Not a pos) (eNot ma) := by
  refine pe_weak (pe_not ha) fun σ H Q ⟨g, S, ρ, L, ok, en, h⟩ => ⟨g, S, ρ, L, ok, en, ?_⟩
  refine wp_mono (wp_bind.mp h) (fun c S1 h1 g1 H1 v gr ok1 r => ?_) fun _ _ z => z
  cases c with
  | bl b => cases r; exact ⟨b, rfl, h1 g1 H1 _ gr ok1 (.bl _)⟩
  | _ => exact h1.elim
def eIf (t : Ev → M Bool) (a b : Ev → M D) : Ev → M D := fun ρ => t ρ >>= fun c => match c with
  | true => a ρ
  | false => b ρ
theorem re_if (hc : RT X E c tma) (ha : RE X E a ma) (hb : RE X E b mb) : RE X E (.IfExp c a b pos) (eIf tma ma mb) := by
  refine pe_weak (pe_ifExp hc ha hb) fun σ H Q ⟨g, S, ρ, L, ok, en, h⟩ => ⟨g, S, ρ, L, ok, en, ?_⟩
  refine wp_mono (wp_bind.mp h) (fun d S1 h1 g1 H1 gr ok1 => ?_) fun _ _ z => z
  cases d with
  | true => rw [if_pos rfl]; exact ⟨g1, S1, ρ, L, ok1, en.grow gr, wp_mono h1 (fun _ _ z => z.grow gr) fun _ _ z => z.grow gr⟩
  | false => rw [if_neg (by decide)]; exact ⟨g1, S1, ρ, L, ok1, en.grow gr, wp_mono h1 (fun _ _ z => z.grow gr) fun _ _ z => z.grow gr⟩
/-! ### argument lists, displays -/
def aNil : Ev → M (List D) := fun _ => .ret []
def aCons (a : Ev → M D) (r : Ev → M (List D)) : Ev → M (List D) := fun ρ => a ρ >>= fun x => r ρ >>= fun xs => .ret (x :: xs)
variable {es : List Expr} {mas : Ev → M (List D)}
theorem ra_nil : RA X E [] aNil := pa_weak pa_nil fun σ H Q ⟨g, S, ρ, L, ok, en, h⟩ => h g H [] .refl ok .nil
theorem ra_cons (ha : RE X E a ma) (hr : RA X E es mas) (hs : starEach (a :: es) X.env = (false, eval a X.env) :: starEach es X.env := by rfl) : RA X E (a :: es) (aCons ma mas) := by
  refine pa_weak (pa_cons ha hr hs) fun σ H Q ⟨g, S, ρ, L, ok, en, h⟩ => ⟨g, S, ρ, L, ok, en, ?_⟩
  refine wp_mono (wp_bind.mp h) (fun d S1 h1 g1 H1 v gr ok1 r => ⟨g1, S1, ρ, L, ok1, en.grow gr, ?_⟩) fun _ _ z => z
  refine wp_mono (wp_bind.mp h1) (fun ds S2 h2 g2 H2 vs gr2 ok2 rs => ?_) fun _ _ z => z.grow gr
  exact h2 g2 H2 _ (gr.trans gr2) ok2 (.cons (gr2.rep r) rs)
def eTup (mas : Ev → M (List D)) : Ev → M D := fun ρ => mas ρ >>= fun ds => if ds.length ≤ sizeLine then .ret (.tup ds) else .bad
theorem re_tup {k} (h : RA X E es mas) : RE X E (.Tuple es k pos) (eTup mas) := by
  refine pe_weak (pe_tup h) fun σ H Q ⟨g, S, ρ, L, ok, en, h⟩ => ⟨g, S, ρ, L, ok, en, ?_⟩
  refine wp_mono (wp_bind.mp h) (fun ds S1 h1 g1 H1 vs gr ok1 r => ?_) fun _ _ z => z
  by_cases hz : ds.length ≤ sizeLine
  · rw [if_pos hz] at h1
    refine ⟨by rw [r.length]; exact hz, fun p hp => ?_⟩
    obtain ⟨ok2, gr2⟩ := ok1.laid (o := .tup vs) hp
    exact h1 _ _ _ (gr.trans gr2) ok2 (.tup (SqT.of upd_same) (gr2.repL r))
  · rw [if_neg hz] at h1; exact h1.elim
/-- a list display: new -/
def nLst (mas : Ev → M (List D)) : Ev → M (List D) := fun ρ => mas ρ >>= fun ds => if ds.length ≤ sizeLine then .ret ds else .bad
theorem rn_lst (h : RA X E es mas) : RN X E (.List es pos) (nLst mas) := by
  refine pe_weak (pe_lst h) fun σ H Q ⟨g, S, ρ, L, ok, en, h⟩ => ⟨g, S, ρ, L, ok, en, ?_⟩
  refine wp_mono (wp_bind.mp h) (fun ds S1 h1 g1 H1 vs gr ok1 r => ?_) fun _ _ z => z
  by_cases hz : ds.length ≤ sizeLine
  · rw [if_pos hz] at h1
    refine ⟨by rw [r.length]; exact hz, fun p hp => ?_⟩
    obtain ⟨ok2, gr2, hF, hθ⟩ := ok1.made (o := .lst vs) hp
    exact h1 _ _ _ _ (gr.trans gr2) ok2 (gr.dom _ hp) upd_same hF hθ r
  · rw [if_neg hz] at h1; exact h1.elim
/-- a new list as a value -/
def eN (m : Ev → M (List D)) : Ev → M D := fun ρ => m ρ >>= fun ds => .ret (.lst ds)
theorem re_n {m : Ev → M (List D)} (h : RN X E a m) : RE X E a (eN m) := by
  refine pe_weak h fun σ H Q ⟨g, S, ρ, L, ok, en, h⟩ => ⟨g, S, ρ, L, ok, en, ?_⟩
  exact wp_mono (wp_bind.mp h) (fun ds S1 h1 => NP.toV h1) fun _ _ z => z
/-! ### calls of built-ins -/
def eCL (f : List D → M D) (mas : Ev → M (List D)) : Ev → M D := fun ρ => mas ρ >>= f
def nCL (f : List D → M (List D)) (mas : Ev → M (List D)) : Ev → M (List D) := fun ρ => mas ρ >>= f
theorem many {ta : TA} {ma : Ev → M (List D)} (hta : ∀ σ H Q, tA X.K X.mg E ma σ H Q → ta σ H Q) {om : List D → M D} {σ : L2.St} {H : Hp} {Q : VK} (h : tE X.K X.mg E (eCL om ma) σ H Q) : ta σ H fun x H1 => rDL X.K X.mg E om x H1 Q := by
  obtain ⟨g, S, ρ, L, ok, en, h⟩ := h
  refine hta _ _ _ ⟨g, S, ρ, L, ok, en, wp_mono (wp_bind.mp h) (fun d1 S1 h1 g1 H1 v1 gr1 ok1 r1 => ⟨g1, S1, d1, ok1, r1, ?_⟩) fun _ _ z => z⟩
  exact wp_mono h1 (fun _ _ z => z.grow gr1) fun _ _ z => z.grow gr1
theorem manyN {ta : TA} {ma : Ev → M (List D)} (hta : ∀ σ H Q, tA X.K X.mg E ma σ H Q → ta σ H Q) {om : List D → M (List D)} {σ : L2.St} {H : Hp} {Q : VK} (h : tN X.K X.mg E (nCL om ma) σ H Q) : ta σ H fun x H1 => rDN X.K X.mg E om x H1 Q := by
  obtain ⟨g, S, ρ, L, ok, en, h⟩ := h
  refine hta _ _ _ ⟨g, S, ρ, L, ok, en, wp_mono (wp_bind.mp h) (fun d1 S1 h1 g1 H1 v1 gr1 ok1 r1 => ⟨g1, S1, d1, ok1, r1, ?_⟩) fun _ _ z => z⟩
  exact wp_mono h1 (fun _ _ z => z.grow gr1) fun _ _ z => z.grow gr1
variable {x : Str} {p : Pos} {id T : String} {om : List D → M D} {on : List D → M (List D)}
theorem re_callB (hc : CallR X (.builtin id) (rDL X.K X.mg E om)) (hg : Gl X x) (hm : X.mg x = none) (hv : bootBuiltins x = some (.builtin id)) (ha : RA X E (a :: es) mas) (hn : x ≠ "__name__" := by decide) (hdb : (x == ("__debug__" : Str)) = false := by decide)
    (he : starEach (a :: es) X.env = (false, eval a X.env) :: starEach es X.env := by rfl) (hpl : (backTo pos (starEach es X.env)).any (·.1) = false := by rfl) : RE X E (.Call (.Name x p) (a :: es) [] pos) (eCL om mas) :=
  pe_weak (pe_callB hc hg hm hv ha hn hdb he hpl) fun σ H Q h => many (fun _ _ _ z => z) h
theorem rn_callB (hc : CallR X (.builtin id) (rDN X.K X.mg E on)) (hg : Gl X x) (hm : X.mg x = none) (hv : bootBuiltins x = some (.builtin id)) (ha : RA X E (a :: es) mas) (hn : x ≠ "__name__" := by decide) (hdb : (x == ("__debug__" : Str)) = false := by decide)
    (he : starEach (a :: es) X.env = (false, eval a X.env) :: starEach es X.env := by rfl) (hpl : (backTo pos (starEach es X.env)).any (·.1) = false := by rfl) : RN X E (.Call (.Name x p) (a :: es) [] pos) (nCL on mas) :=
  pe_weak (pe_callB hc hg hm hv ha hn hdb he hpl) fun σ H Q h => manyN (fun _ _ _ z => z) h
theorem re_callTy (hc : CallR X (.type T) (rDL X.K X.mg E om)) (hg : Gl X x) (hm : X.mg x = none) (hv : bootBuiltins x = some (.type T)) (ha : RA X E (a :: es) mas) (hn : x ≠ "__name__" := by decide) (hdb : (x == ("__debug__" : Str)) = false := by decide)
    (he : starEach (a :: es) X.env = (false, eval a X.env) :: starEach es X.env := by rfl) (hpl : (backTo pos (starEach es X.env)).any (·.1) = false := by rfl) : RE X E (.Call (.Name x p) (a :: es) [] pos) (eCL om mas) :=
  pe_weak (pe_callTy hc hg hm hv ha hn hdb he hpl) fun σ H Q h => many (fun _ _ _ z => z) h
theorem rn_callTy (hc : CallR X (.type T) (rDN X.K X.mg E on)) (hg : Gl X x) (hm : X.mg x = none) (hv : bootBuiltins x = some (.type T)) (ha : RA X E (a :: es) mas) (hn : x ≠ "__name__" := by decide) (hdb : (x == ("__debug__" : Str)) = false := by decide)
    (he : starEach (a :: es) X.env = (false, eval a X.env) :: starEach es X.env := by rfl) (hpl : (backTo pos (starEach es X.env)).any (·.1) = false := by rfl) : RN X E (.Call (.Name x p) (a :: es) [] pos) (nCL on mas) :=
  pe_weak (pe_callTy hc hg hm hv ha hn hdb he hpl) fun σ H Q h => manyN (fun _ _ _ z => z) h
end

/-! ## operators -/
def iD : D → Option Int
  | .int i => some i
  | _ => none
def addM : D → D → M D
  | .int i, .int j => .ret (.int (i + j))
  | .str a, .str b => if a.length + b.length ≤ sizeLine then .ret (.str (a ++ b)) else .bad
  | .tup a, .tup b => if a.length + b.length ≤ sizeLine then .ret (.tup (a ++ b)) else .bad
  | .lst a, .lst b => if a.length + b.length ≤ sizeLine then .ret (.lst (a ++ b)) else .bad
  | _, _ => .bad
def subM : D → D → M D
  | .int i, .int j => .ret (.int (i - j))
  | _, _ => .bad
def mulM : D → D → M D
  | .int i, .int j => if (-(2 ^ 64) < i ∧ i < 2 ^ 64) ∨ (-(2 ^ 64) < j ∧ j < 2 ^ 64) then .ret (.int (i * j)) else .bad
  | .tup a, .int k => if a ≠ [] ∧ 2 ≤ k ∧ k ≤ 1000 ∧ a.length ≤ 1000 then .ret (.tup (List.replicate k.toNat a).flatten) else .bad
  | _, _ => .bad
def modM : D → D → M D
  | .int i, .int j => if j ≠ 0 then .ret (.int (i.fmod j)) else .bad
  | _, _ => .bad
def fdivM : D → D → M D
  | .int i, .int j => if j ≠ 0 ∧ j.natAbs < 1073741824 then .ret (.int (i.fdiv j)) else .bad
  | _, _ => .bad
def powM : D → D → M D
  | .int i, .int j => if 0 ≤ j ∧ j ≤ 1000000 ∧ i.natAbs < 2 ^ 64 then .ret (.int (i ^ j.toNat)) else .bad
  | _, _ => .bad
def negM : D → M D
  | .int i => .ret (.int (-i))
  | _ => .bad
def scalD : D → D → Bool
  | .non, .non => true | .non, .int _ => true | .int _, .non => true | .non, .bl _ => true | .bl _, .non => true | .non, .str _ => true | .str _, .non => true
  | .int _, .int _ => true | .bl _, .bl _ => true | .str _, .str _ => true
  | .int _, .str _ => true | .str _, .int _ => true | .bl _, .str _ => true | .str _, .bl _ => true
  | _, _ => false
def eqM (d e : D) : M D := if scalD d e || (d.sh && e.sh) then .ret (.bl (D.eqv d e)) else .bad
def neM (d e : D) : M D := if scalD d e || (d.sh && e.sh) then .ret (.bl (!D.eqv d e)) else .bad
def ltM : D → D → M D
  | .int i, .int j => .ret (.bl (decide (i < j)))
  | _, _ => .bad
def leM : D → D → M D
  | .int i, .int j => .ret (.bl (decide (i ≤ j)))
  | _, _ => .bad
def gtM : D → D → M D
  | .int i, .int j => .ret (.bl (decide (j < i)))
  | _, _ => .bad
def geM : D → D → M D
  | .int i, .int j => .ret (.bl (decide (j ≤ i)))
  | _, _ => .bad
section
variable {X : Cx} {E : XK}
theorem rep_ref {K : PySem.W.Frag} {F : Hp} {θ : List Addr} {x : V} {xs : List D} (r : Rep K F θ x (.tup xs)) : ∃ a vs, x = .ref a ∧ SqT K F a vs ∧ RepL K F θ vs xs := by cases r with | tup s r => exact ⟨_, _, rfl, s, r⟩
theorem rep_refL {K : PySem.W.Frag} {F : Hp} {θ : List Addr} {x : V} {xs : List D} (r : Rep K F θ x (.lst xs)) : ∃ a vs, x = .ref a ∧ F a = some (.lst vs) ∧ RepL K F θ vs xs := by cases r with | lst s r => exact ⟨_, _, rfl, s, r⟩
theorem o_add : OpR X (binaryOp .Add) (rD2 X.K X.mg E addM) := by
  intro pins s σ H x y v u Q I rx ry ⟨g, S, d, e, ok, r1, r2, h⟩
  cases d with
  | int i =>
    cases e with
    | int j => cases r1; cases r2; exact op_add pins s σ H _ _ v u Q I rx ry ⟨i, j, rfl, rfl, h g H _ .refl ok (.int _)⟩
    | _ => exact h.elim
  | str i =>
    cases e with
    | str j =>
      cases r1; cases r2
      by_cases hz : i.length + j.length ≤ sizeLine
      · have h : wp (if i.length + j.length ≤ sizeLine then M.ret (D.str (i ++ j)) else .bad) S (VP X.K g H Q) (XP X.K X.mg g H E) := h
        rw [if_pos hz] at h
        exact op_add_str pins s σ H _ _ v u Q I rx ry ⟨i, j, rfl, rfl, hz, h g H _ .refl ok (.str _)⟩
      · have h : wp (if i.length + j.length ≤ sizeLine then M.ret (D.str (i ++ j)) else .bad) S (VP X.K g H Q) (XP X.K X.mg g H E) := h
        rw [if_neg hz] at h; exact h.elim
    | _ => exact h.elim
  | tup xs =>
    cases e with
    | tup ys =>
      obtain ⟨a, vs, rfl, s1, q1⟩ := rep_ref r1
      obtain ⟨b, ws, rfl, s2, q2⟩ := rep_ref r2
      have h : wp (if xs.length + ys.length ≤ sizeLine then M.ret (D.tup (xs ++ ys)) else .bad) S (VP X.K g H Q) (XP X.K X.mg g H E) := h
      by_cases hz : xs.length + ys.length ≤ sizeLine
      · rw [if_pos hz] at h
        refine op_catA pins s σ H _ _ v u Q I rx ry ⟨a, b, vs, ws, rfl, rfl, SqT.sub ok.sub s1, SqT.sub ok.sub s2, by rw [q1.length, q2.length]; exact hz, fun e => ?_, fun n e => ?_, fun n1 n2 p hp => ?_⟩
        · have e' : xs = [] := by cases q1 with | nil => rfl | cons _ _ => cases e
          subst e'
          exact h g H _ .refl ok (by rw [List.nil_append]; exact r2)
        · have e' : ys = [] := by cases q2 with | nil => rfl | cons _ _ => cases e
          subst e'
          exact h g H _ .refl ok (by rw [List.append_nil]; exact r1)
        · obtain ⟨ok2, gr2⟩ := ok.laid (o := .tup (vs ++ ws)) hp
          exact h _ _ _ gr2 ok2 (.tup (SqT.of upd_same) (gr2.repL (q1.append q2)))
      · rw [if_neg hz] at h; exact h.elim
    | _ => exact h.elim
  | lst xs =>
    cases e with
    | lst ys =>
      obtain ⟨a, vs, rfl, s1, q1⟩ := rep_refL r1
      obtain ⟨b, ws, rfl, s2, q2⟩ := rep_refL r2
      have h : wp (if xs.length + ys.length ≤ sizeLine then M.ret (D.lst (xs ++ ys)) else .bad) S (VP X.K g H Q) (XP X.K X.mg g H E) := h
      by_cases hz : xs.length + ys.length ≤ sizeLine
      · rw [if_pos hz] at h
        refine op_cat pins s σ H _ _ v u Q I rx ry ⟨a, b, vs, ws, rfl, rfl, ok.sub _ _ s1, ok.sub _ _ s2, by rw [q1.length, q2.length]; exact hz, fun p hp => ?_⟩
        obtain ⟨ok2, gr2⟩ := ok.laid (o := .lst (vs ++ ws)) hp
        exact h _ _ _ gr2 ok2 (.lst upd_same (gr2.repL (q1.append q2)))
      · rw [if_neg hz] at h; exact h.elim
    | _ => exact h.elim
  | _ => exact h.elim
end
end F
namespace F
open PySem PySem.Spec PyProof.Rows L2
theorem wp_guard {α : Type} {c : Prop} [Decidable c] {m : M α} {S : List OS} {Q : α → List OS → Prop} {E : Ex → List OS → Prop} (h : wp (if c then m else .bad) S Q E) : c ∧ wp m S Q E := by
  by_cases hc : c
  · rw [if_pos hc] at h; exact ⟨hc, h⟩
  · rw [if_neg hc] at h; exact h.elim
section
variable {X : Cx} {E : XK}
theorem o_sub : OpR X (binaryOp .Sub) (rD2 X.K X.mg E subM) := by
  intro pins s σ H x y v u Q I rx ry ⟨g, S, d, e, ok, r1, r2, h⟩
  cases d with
  | int i =>
    cases e with
    | int j => cases r1; cases r2; exact op_sub pins s σ H _ _ v u Q I rx ry ⟨i, j, rfl, rfl, h g H _ .refl ok (.int _)⟩
    | _ => exact h.elim
  | _ => exact h.elim
theorem o_mul : OpR X (binaryOp .Mult) (rD2 X.K X.mg E mulM) := by
  intro pins s σ H x y v u Q I rx ry ⟨g, S, d, e, ok, r1, r2, h⟩
  cases d with
  | int i =>
    cases e with
    | int j =>
      cases r1; cases r2
      obtain ⟨hz, h⟩ := wp_guard h
      exact op_mul pins s σ H _ _ v u Q I rx ry ⟨i, j, rfl, rfl, hz, h g H _ .refl ok (.int _)⟩
    | _ => exact h.elim
  | tup xs =>
    cases e with
    | int k =>
      obtain ⟨⟨h1, h2, h3, h4⟩, h⟩ := wp_guard h
      obtain ⟨a, vs, rfl, s1, q1⟩ := rep_ref r1
      cases r2
      refine op_repT pins s σ H _ _ v u Q I rx ry ⟨a, k, vs, rfl, rfl, SqT.sub ok.sub s1, fun e => ?_, h2, h3, by rw [q1.length]; exact h4, fun p hp => ?_⟩
      · subst e; cases q1; exact h1 rfl
      · obtain ⟨ok2, gr2⟩ := ok.laid (o := .tup (List.replicate k.toNat vs).flatten) hp
        refine h _ _ _ gr2 ok2 (.tup (SqT.of upd_same) (gr2.repL ?_))
        generalize k.toNat = n
        induction n with
        | zero => exact .nil
        | succ n ih => rw [List.replicate_succ, List.replicate_succ, List.flatten_cons, List.flatten_cons]; exact q1.append ih
    | _ => exact h.elim
  | _ => exact h.elim
theorem o_mod : OpR X (binaryOp .Mod) (rD2 X.K X.mg E modM) := by
  intro pins s σ H x y v u Q I rx ry ⟨g, S, d, e, ok, r1, r2, h⟩
  cases d with
  | int i =>
    cases e with
    | int j =>
      cases r1; cases r2
      obtain ⟨hz, h⟩ := wp_guard h
      exact op_modN pins s σ H _ _ v u Q I rx ry ⟨i, j, rfl, rfl, hz, h g H _ .refl ok (.int _)⟩
    | _ => exact h.elim
  | _ => exact h.elim
theorem o_fdiv : OpR X (binaryOp .FloorDiv) (rD2 X.K X.mg E fdivM) := by
  intro pins s σ H x y v u Q I rx ry ⟨g, S, d, e, ok, r1, r2, h⟩
  cases d with
  | int i =>
    cases e with
    | int j =>
      cases r1; cases r2
      obtain ⟨hz, h⟩ := wp_guard h
      exact op_fdivN pins s σ H _ _ v u Q I rx ry ⟨i, j, rfl, rfl, hz, h g H _ .refl ok (.int _)⟩
    | _ => exact h.elim
  | _ => exact h.elim
theorem o_pow : OpR X (binaryOp .Pow) (rD2 X.K X.mg E powM) := by
  intro pins s σ H x y v u Q I rx ry ⟨g, S, d, e, ok, r1, r2, h⟩
  cases d with
  | int i =>
    cases e with
    | int j =>
      cases r1; cases r2
      obtain ⟨hz, h⟩ := wp_guard h
      exact op_pow pins s σ H _ _ v u Q I rx ry ⟨i, j, rfl, rfl, hz, h g H _ .refl ok (.int _)⟩
    | _ => exact h.elim
  | _ => exact h.elim
theorem u_neg : UnR X (unaryOp .USub) (rD1 X.K X.mg E negM) := by
  intro pins s σ H x v Q I rx ⟨g, S, d, ok, r1, h⟩
  cases d with
  | int i => cases r1; exact un_neg pins s σ H _ v Q I rx ⟨i, rfl, h g H _ .refl ok (.int _)⟩
  | _ => exact h.elim
theorem scal_rep {K : PySem.W.Frag} {F : Hp} {θ : List Addr} {x y : V} {d e : D} (r1 : Rep K F θ x d) (r2 : Rep K F θ y e) (h : scalD d e = true) : scal x y = true ∧ decide (x = y) = D.eqv d e := by
  cases r1 <;> cases r2 <;> first
    | (exact absurd (show false = true from h) Bool.false_ne_true)
    | (refine ⟨rfl, ?_⟩; show decide _ = false; exact decide_eq_false (by intro z; cases z))
    | (refine ⟨rfl, ?_⟩; show decide _ = true; exact decide_eq_true rfl)
    | (refine ⟨rfl, ?_⟩; show decide _ = (_ == _); rw [Bool.eq_iff_iff]; simp; done)
theorem c_eq (hu : X.A.units + 64 < cLine) : OpR X (compareOp .Eq) (rD2 X.K X.mg E eqM) := by
  intro pins s σ H x y v u Q I rx ry ⟨g, S, d, e, ok, r1, r2, h⟩
  obtain ⟨hc, h⟩ := wp_guard h
  rw [Bool.or_eq_true] at hc
  rcases hc with hc | hc
  · obtain ⟨h1, h2⟩ := scal_rep r1 r2 hc
    exact op_eq pins s σ H _ _ v u Q I rx ry ⟨h1, by rw [h2]; exact h g H _ .refl ok (.bl _)⟩
  · rw [Bool.and_eq_true] at hc
    obtain ⟨p, ep, sp⟩ := D.py_sh hc.1
    obtain ⟨q, eq, sq⟩ := D.py_sh hc.2
    exact op_eqD hu pins s σ H _ _ v u Q I rx ry ⟨p, q, r1.dp ok.sub ep, r2.dp ok.sub eq, sp, sq, by rw [← D.eqv_py _ _ _ _ ep eq]; exact h g H _ .refl ok (.bl _)⟩
theorem c_ne (hu : X.A.units + 64 < cLine) : OpR X (compareOp .NotEq) (rD2 X.K X.mg E neM) := by
  intro pins s σ H x y v u Q I rx ry ⟨g, S, d, e, ok, r1, r2, h⟩
  obtain ⟨hc, h⟩ := wp_guard h
  rw [Bool.or_eq_true] at hc
  rcases hc with hc | hc
  · obtain ⟨h1, h2⟩ := scal_rep r1 r2 hc
    exact op_ne pins s σ H _ _ v u Q I rx ry ⟨h1, by rw [h2]; exact h g H _ .refl ok (.bl _)⟩
  · rw [Bool.and_eq_true] at hc
    obtain ⟨p, ep, sp⟩ := D.py_sh hc.1
    obtain ⟨q, eq, sq⟩ := D.py_sh hc.2
    exact op_neD hu pins s σ H _ _ v u Q I rx ry ⟨p, q, r1.dp ok.sub ep, r2.dp ok.sub eq, sp, sq, by rw [← D.eqv_py _ _ _ _ ep eq]; exact h g H _ .refl ok (.bl _)⟩
theorem c_int {op : CmpOp} {f : Int → Int → Bool} {om : D → D → M D} (hf : OpR X (compareOp op) (rI0 fun i j => .bl (f i j))) (ho : ∀ (d e : D) (S : List OS) (Q : D → List OS → Prop) (E : Ex → List OS → Prop), wp (om d e) S Q E → ∃ i j, d = .int i ∧ e = .int j ∧ Q (.bl (f i j)) S) : OpR X (compareOp op) (rD2 X.K X.mg E om) := by
  intro pins s σ H x y v u Q I rx ry ⟨g, S, d, e, ok, r1, r2, h⟩
  obtain ⟨i, j, rfl, rfl, h2⟩ := ho d e S _ _ h
  cases r1; cases r2
  exact hf pins s σ H _ _ v u Q I rx ry ⟨i, j, rfl, rfl, h2 g H _ .refl ok (.bl _)⟩
theorem c_lt : OpR X (compareOp .Lt) (rD2 X.K X.mg E ltM) := c_int op_lt fun d e S Q E h => by
  cases d <;> cases e <;> first | exact ⟨_, _, rfl, rfl, h⟩ | exact h.elim
theorem c_le : OpR X (compareOp .LtE) (rD2 X.K X.mg E leM) := c_int op_le fun d e S Q E h => by
  cases d <;> cases e <;> first | exact ⟨_, _, rfl, rfl, h⟩ | exact h.elim
theorem c_gt : OpR X (compareOp .Gt) (rD2 X.K X.mg E gtM) := c_int op_gt fun d e S Q E h => by
  cases d <;> cases e <;> first | exact ⟨_, _, rfl, rfl, h⟩ | exact h.elim
theorem c_ge : OpR X (compareOp .GtE) (rD2 X.K X.mg E geM) := c_int op_ge fun d e S Q E h => by
  cases d <;> cases e <;> first | exact ⟨_, _, rfl, rfl, h⟩ | exact h.elim
/-- is None -/
def isnM : D → D → M D
  | d, .non => .ret (.bl (match d with | .non => true | _ => false))
  | _, _ => .bad
def notnM : D → D → M D
  | d, .non => .ret (.bl (match d with | .non => false | _ => true))
  | _, _ => .bad
theorem c_isn : OpR X (compareOp .Is) (rD2 X.K X.mg E isnM) := by
  intro pins s σ H x y v u Q I rx ry ⟨g, S, d, e, ok, r1, r2, h⟩
  cases r2 with
  | non =>
    refine op_isN pins s σ H _ _ v u Q I rx ry ⟨rfl, ?_⟩
    cases r1 <;> exact h g H _ .refl ok (.bl _)
  | _ => cases d <;> exact h.elim
theorem c_notn : OpR X (compareOp .IsNot) (rD2 X.K X.mg E notnM) := by
  intro pins s σ H x y v u Q I rx ry ⟨g, S, d, e, ok, r1, r2, h⟩
  cases r2 with
  | non =>
    refine op_notN pins s σ H _ _ v u Q I rx ry ⟨rfl, ?_⟩
    cases r1 <;> exact h g H _ .refl ok (.bl _)
  | _ => cases d <;> exact h.elim
/-- in -/
def D.flat : D → Bool
  | .non => true
  | .bl _ => true
  | .int _ => true
  | .str _ => true
  | _ => false
def inL (d : D) (ys : List D) : Bool := ys.any fun y => D.eqv y d
def inM (neg : Bool) : D → D → M D
  | .str a, .str b => if a.length = 1 then .ret (.bl (neg ^^ decide (a.cps.getD 0 0 ∈ b.cps.toList))) else .bad
  | d, .tup ys => if (d.flat && ys.all D.flat) || (d.sh && D.sh (.tup ys)) then .ret (.bl (neg ^^ inL d ys)) else .bad
  | d, .lst ys => if (d.flat && ys.all D.flat) || (d.sh && D.sh (.lst ys)) then .ret (.bl (neg ^^ inL d ys)) else .bad
  | _, _ => .bad
theorem flat_rep {K : PySem.W.Frag} {F : Hp} {θ : List Addr} {x : V} {d : D} (r : Rep K F θ x d) (h : d.flat = true) : flatV x = true := by
  cases r <;> first | rfl | exact absurd (show false = true from h) Bool.false_ne_true
theorem flat_eqv {K : PySem.W.Frag} {F : Hp} {θ : List Addr} {x y : V} {d e : D} (r : Rep K F θ x d) (q : Rep K F θ y e) (h : d.flat = true) (h' : e.flat = true) : eqV x y = D.eqv d e := by
  cases r <;> cases q <;> first | rfl | exact absurd (show false = true from h) Bool.false_ne_true | exact absurd (show false = true from h') Bool.false_ne_true
theorem flat_all {K : PySem.W.Frag} {F : Hp} {θ : List Addr} {x : V} {d : D} (r : Rep K F θ x d) (h : d.flat = true) : ∀ {ys : List D} {vs : List V}, RepL K F θ vs ys → ys.all D.flat = true → vs.all flatV = true ∧ inV x vs = inL d ys
  | _, _, .nil, _ => ⟨rfl, rfl⟩
  | y :: ys, v :: vs, .cons ry rs, hf => by
    rw [List.all_cons, Bool.and_eq_true] at hf
    obtain ⟨h1, h2⟩ := flat_all r h rs hf.2
    refine ⟨by rw [List.all_cons, flat_rep ry hf.1, h1]; rfl, ?_⟩
    show (eqV v x || inV x vs) = (D.eqv y d || inL d ys)
    rw [flat_eqv ry r hf.1 h, h2]
theorem str_one {a : Str} (h : a.length = 1) : a = ⟨#[a.cps.getD 0 0]⟩ := by
  obtain ⟨⟨l⟩⟩ := a
  match l, h with
  | [c], _ => rfl
theorem any_py {p : PyData} {d : D} (e : d.py = some p) : ∀ {ys : List D} {ps : List PyData}, D.pyL ys = some ps → (ps.any fun z => PyData.eqv z p) = inL d ys
  | [], _, h => by cases h; rfl
  | y :: ys, _, h => by
    obtain ⟨q, qs, e1, e2, rfl⟩ := D.pyL_cons h
    show (PyData.eqv q p || qs.any _) = (D.eqv y d || inL d ys)
    rw [any_py e e2, D.eqv_py _ _ _ _ e1 e]
theorem c_inG (hu : X.A.units + 65 < cLine) (neg : Bool) {op : CmpOp} (hop : op = if neg then .NotIn else .In) : OpR X (compareOp op) (rD2 X.K X.mg E (inM neg)) := by
  subst hop
  intro pins s σ H x y v u Q I rx ry ⟨g, S, d, e, ok, r1, r2, h⟩
  have seq : ∀ {ys : List D} {a : Addr} {vs : List V}, RepL X.K g.F g.θ vs ys → (SqL X.K H a vs ∨ SqT X.K H a vs) → y = .ref a → d.flat = true → ys.all D.flat = true → wp (M.ret (D.bl (neg ^^ inL d ys))) S (VP X.K g H Q) (XP X.K X.mg g H E) →
      wpAny (model X.prog X.w) X.A (compareOp (if neg then .NotIn else .In) v u) (EP X pins σ Q) X.xe s := by
    rintro ys a vs rs hq rfl f1 f2 h
    obtain ⟨h1, h2⟩ := flat_all r1 f1 rs f2
    cases neg with
    | false => exact op_in_seq pins s σ H _ _ v u Q I rx ry ⟨a, vs, rfl, hq, flat_rep r1 f1, h1, by rw [if_neg (by decide), h2]; exact h g H _ .refl ok (by rw [Bool.false_xor]; exact .bl _)⟩
    | true => exact op_notIn_seq pins s σ H _ _ v u Q I rx ry ⟨a, vs, rfl, hq, flat_rep r1 f1, h1, by rw [if_pos rfl, h2]; exact h g H _ .refl ok (by rw [Bool.true_xor]; exact .bl _)⟩
  have deep : ∀ {ys : List D} {c : D} {p : PyData} {ps : List PyData}, (c = .tup ys ∨ c = .lst ys) → e = c → d.sh = true → c.sh = true → wp (M.ret (D.bl (neg ^^ inL d ys))) S (VP X.K g H Q) (XP X.K X.mg g H E) →
      wpAny (model X.prog X.w) X.A (compareOp (if neg then .NotIn else .In) v u) (EP X pins σ Q) X.xe s := by
    rintro ys c _ _ hc rfl f1 f2 h
    obtain ⟨p, ep, sp⟩ := D.py_sh f1
    obtain ⟨q, eq, sq⟩ := D.py_sh f2
    obtain ⟨as, a1⟩ := Dp.reads I p x v (r1.dp ok.sub ep) rx
    obtain ⟨bs, a2⟩ := Dp.reads I q y u (r2.dp ok.sub eq) ry
    have fin : ∀ b, b = (neg ^^ inL d ys) → EP X pins σ Q (.bool b) s := fun b hb => by subst hb; exact ⟨.bl _, H, I, rfl, h g H _ .refl ok (.bl _)⟩
    rcases hc with rfl | rfl
    · obtain ⟨ps, e2, rfl⟩ := D.py_tup eq
      cases neg with
      | false => exact SeqAt.in_tuple_reads a2 a1 (SeqAt.canLay_of_shaped sq) (SeqAt.canLay_of_shaped sp) (room_in_shaped sp hu) (fin _ (by rw [any_py ep e2, Bool.false_xor]))
      | true => exact SeqAt.notIn_tuple_reads a2 a1 (SeqAt.canLay_of_shaped sq) (SeqAt.canLay_of_shaped sp) (room_in_shaped sp hu) (fin _ (by rw [any_py ep e2, Bool.true_xor]))
    · obtain ⟨ps, e2, rfl⟩ := D.py_lst eq
      cases neg with
      | false => exact SeqAt.in_list_reads a2 a1 (SeqAt.canLay_of_shaped sq) (SeqAt.canLay_of_shaped sp) (room_in_shaped sp hu) (fin _ (by rw [any_py ep e2, Bool.false_xor]))
      | true => exact SeqAt.notIn_list_reads a2 a1 (SeqAt.canLay_of_shaped sq) (SeqAt.canLay_of_shaped sp) (room_in_shaped sp hu) (fin _ (by rw [any_py ep e2, Bool.true_xor]))
  cases e with
  | str b =>
    cases d with
    | str a =>
      obtain ⟨hz, h⟩ := wp_guard h
      cases r1; cases r2
      have ea := str_one hz
      cases neg with
      | false => exact op_in_sign pins s σ H _ _ v u Q I rx ry ⟨_, b, congrArg V.str ea, rfl, h g H _ .refl ok (by rw [Bool.false_xor]; exact .bl _)⟩
      | true => exact op_notIn_sign pins s σ H _ _ v u Q I rx ry ⟨_, b, congrArg V.str ea, rfl, h g H _ .refl ok (by rw [Bool.true_xor]; exact .bl _)⟩
    | _ => exact h.elim
  | tup ys =>
    have h' : wp (if ((d.flat && ys.all D.flat) || (d.sh && D.sh (.tup ys))) = true then M.ret (D.bl (neg ^^ inL d ys)) else .bad) S (VP X.K g H Q) (XP X.K X.mg g H E) := by cases d <;> exact h
    obtain ⟨hc, h'⟩ := wp_guard h'
    rw [Bool.or_eq_true, Bool.and_eq_true, Bool.and_eq_true] at hc
    rcases hc with hc | hc
    · obtain ⟨a, vs, rfl, s2, q2⟩ := rep_ref r2
      exact seq q2 (.inr (SqT.sub ok.sub s2)) rfl hc.1 hc.2 h'
    · exact deep (p := .none) (ps := []) (.inl rfl) rfl hc.1 hc.2 h'
  | lst ys =>
    have h' : wp (if ((d.flat && ys.all D.flat) || (d.sh && D.sh (.lst ys))) = true then M.ret (D.bl (neg ^^ inL d ys)) else .bad) S (VP X.K g H Q) (XP X.K X.mg g H E) := by cases d <;> exact h
    obtain ⟨hc, h'⟩ := wp_guard h'
    rw [Bool.or_eq_true, Bool.and_eq_true, Bool.and_eq_true] at hc
    rcases hc with hc | hc
    · obtain ⟨a, vs, rfl, s2, q2⟩ := rep_refL r2
      exact seq q2 (.inl (SqL.of (ok.sub _ _ s2))) rfl hc.1 hc.2 h'
    · exact deep (p := .none) (ps := []) (.inr rfl) rfl hc.1 hc.2 h'
  | _ => cases d <;> exact h.elim
theorem c_in (hu : X.A.units + 65 < cLine) : OpR X (compareOp .In) (rD2 X.K X.mg E (inM false)) := c_inG hu false rfl
theorem c_nin (hu : X.A.units + 65 < cLine) : OpR X (compareOp .NotIn) (rD2 X.K X.mg E (inM true)) := c_inG hu true rfl
/-! ### chains -/
def eChain (f h : D → D → M D) (a b c : Ev → M D) : Ev → M D := fun ρ => a ρ >>= fun x => b ρ >>= fun y => f x y >>= fun z => match z with
  | .bl true => c ρ >>= fun w => h y w
  | .bl false => .ret (.bl false)
  | _ => .bad
variable {a b c : Expr} {ma mb mc : Ev → M D} {pos : Pos}
theorem chain_go {om on : D → D → M D} {σ : L2.St} {H : Hp} {Q : VK} (h : tE X.K X.mg E (eChain om on ma mb mc) σ H Q) :
    tChain (rD2 X.K X.mg E om) (rD2 X.K X.mg E on) (tE X.K X.mg E ma) (tE X.K X.mg E mb) (tE X.K X.mg E mc) σ H Q := by
  obtain ⟨g, S, ρ, L, ok, en, h⟩ := h
  refine ⟨g, S, ρ, L, ok, en, wp_mono (wp_bind.mp h) (fun d1 S1 h1 g1 H1 v1 gr1 ok1 r1 => ⟨g1, S1, ρ, L, ok1, en.grow gr1, ?_⟩) fun _ _ z => z⟩
  refine wp_mono (wp_bind.mp h1) (fun d2 S2 h2 g2 H2 v2 gr2 ok2 r2 => ⟨g2, S2, d1, d2, ok2, gr2.rep r1, r2, ?_⟩) fun _ _ z => z.grow gr1
  refine wp_mono (wp_bind.mp h2) (fun d3 S3 h3 g3 H3 v3 gr3 ok3 r3 => ?_) fun _ _ z => z.grow (gr1.trans gr2)
  have gr123 := gr1.trans (gr2.trans gr3)
  cases d3 with
  | bl k =>
    cases r3
    refine ⟨k, rfl, ?_⟩
    cases k with
    | false => rw [if_neg (by decide)]; exact h3 g3 H3 _ gr123 ok3 (.bl _)
    | true =>
      rw [if_pos rfl]
      refine ⟨g3, S3, ρ, L, ok3, en.grow gr123, wp_mono (wp_bind.mp h3) (fun d4 S4 h4 g4 H4 v4 gr4 ok4 r4 => ⟨g4, S4, d2, d4, ok4, gr4.rep (gr3.rep r2), r4, ?_⟩) fun _ _ z => z.grow gr123⟩
      exact wp_mono h4 (fun _ _ z => z.grow (gr123.trans gr4)) fun _ _ z => z.grow (gr123.trans gr4)
  | _ => exact h3.elim
theorem re_chain {op op' : CmpOp} {om on : D → D → M D} (ho : OpR X (compareOp op) (rD2 X.K X.mg E om)) (ho' : OpR X (compareOp op') (rD2 X.K X.mg E on)) (ha : RE X E a ma) (hb : RE X E b mb) (hc : RE X E c mc) (hm : lastMarks [op, op'] [b, c] = false := by with_unfolding_all rfl) :
    RE X E (.Compare a [op, op'] [b, c] pos) (eChain om on ma mb mc) := pe_weak (pe_chain ho ho' ha hb hc hm) fun σ H Q h => chain_go h
theorem rt_chain {op op' : CmpOp} {om on : D → D → M D} (ho : OpR X (compareOp op) (rD2 X.K X.mg E om)) (ho' : OpR X (compareOp op') (rD2 X.K X.mg E on)) (ha : RE X E a ma) (hb : RE X E b mb) (hc : RE X E c mc) (hm : lastMarks [op, op'] [b, c] = false := by with_unfolding_all rfl) :
    RT X E (.Compare a [op, op'] [b, c] pos) (tV (eChain om on ma mb mc)) := by
  refine pt_weak (pt_chain ho ho' ha hb hc hm) fun σ H Q ⟨g, S, ρ, L, ok, en, h⟩ => ?_
  refine chain_go ⟨g, S, ρ, L, ok, en, wp_mono (wp_bind.mp h) (fun d S1 h1 g1 H1 v gr ok1 r => ?_) fun _ _ z => z⟩
  cases d with
  | bl k => cases r; exact ⟨k, rfl, h1 g1 H1 gr ok1⟩
  | _ => exact h1.elim
/-! ### a subscript -/
def idxM : D → D → M D
  | .tup xs, .int i => match atI xs i with
    | some x => .ret x
    | none => .bad
  | .lst xs, .int i => match atI xs i with
    | some x => .ret x
    | none => .bad
  | .str z, .int i => if z.length ≤ sizeLine then (match atI z.cps.toList i with
    | some c => .ret (.str ⟨#[c]⟩)
    | none => .bad) else .bad
  | _, _ => .bad
theorem at_rep {K : PySem.W.Frag} {F : Hp} {θ : List Addr} {vs : List V} {ds : List D} {i : Int} {d : D} (r : RepL K F θ vs ds) (e : atI ds i = some d) : ∃ v, atI vs i = some v ∧ Rep K F θ v d := by
  unfold atI at e ⊢
  rw [r.length]
  cases hj : ixN ds.length i with
  | none => rw [hj] at e; cases e
  | some j =>
    rw [hj] at e
    exact r.get e
theorem ix_all : IxR X (rD2 X.K X.mg E idxM) := by
  intro value slice pins s σ H x y v u Q I rx ry ⟨g, S, d, e, ok, r1, r2, h⟩ hs
  cases d with
  | tup xs =>
    cases e with
    | int i =>
      obtain ⟨a, vs, rfl, s1, q1⟩ := rep_ref r1
      cases r2
      have h : wp (match atI xs i with | some x => M.ret x | none => .bad) S (VP X.K g H Q) (XP X.K X.mg g H E) := h
      cases hx : atI xs i with
      | none => rw [hx] at h; exact h.elim
      | some d =>
        rw [hx] at h
        obtain ⟨w, e1, r⟩ := at_rep q1 hx
        exact ix_tup value slice pins s σ H _ _ v u Q I rx ry ⟨a, vs, i, w, rfl, rfl, SqT.sub ok.sub s1, e1, h g H w .refl ok r⟩ hs
    | _ => exact h.elim
  | lst xs =>
    cases e with
    | int i =>
      obtain ⟨a, vs, rfl, s1, q1⟩ := rep_refL r1
      cases r2
      have h : wp (match atI xs i with | some x => M.ret x | none => .bad) S (VP X.K g H Q) (XP X.K X.mg g H E) := h
      cases hx : atI xs i with
      | none => rw [hx] at h; exact h.elim
      | some d =>
        rw [hx] at h
        obtain ⟨w, e1, r⟩ := at_rep q1 hx
        exact ix_list value slice pins s σ H _ _ v u Q I rx ry ⟨a, vs, i, w, rfl, rfl, SqL.of (ok.sub _ _ s1), e1, h g H w .refl ok r⟩ hs
    | _ => exact h.elim
  | str z =>
    cases e with
    | int i =>
      cases r1; cases r2
      obtain ⟨hz, h⟩ := wp_guard h
      cases hx : atI z.cps.toList i with
      | none => rw [hx] at h; exact h.elim
      | some c =>
        rw [hx] at h
        exact ix_str value slice pins s σ H _ _ v u Q I rx ry ⟨z, i, c, rfl, rfl, hz, hx, h g H _ .refl ok (.str _)⟩ hs
    | _ => exact h.elim
  | _ => exact h.elim
theorem re_ix (ha : RE X E a ma) (hb : RE X E b mb) (hs : PlainIx b := by exact fun _ _ => rfl) : RE X E (.Subscript a b pos) (eBin idxM ma mb) :=
  pe_weak (pe_ix ix_all ha hb hs) fun σ H Q h => two (fun _ _ _ z => z) (fun _ _ _ z => z) (fun _ _ _ _ z => z) h
/-! ### slices -/
def cutL {α : Type} (xs : List α) (lo hi : Option Int) : List α := (xs.drop (HT.sIx xs.length 0 lo)).take (HT.sIx xs.length xs.length hi - HT.sIx xs.length 0 lo)
theorem cut_rep {K : PySem.W.Frag} {F : Hp} {θ : List Addr} {vs : List V} {ds : List D} (lo hi : Option Int) (r : RepL K F θ vs ds) : RepL K F θ (cutV vs lo hi) (cutL ds lo hi) := by
  unfold cutV cutL
  rw [r.length]
  exact (r.drop _).take _
def sliceM (lo hi : Option Int) : D → M D
  | .tup xs => .ret (.tup (cutL xs lo hi))
  | .lst xs => .ret (.lst (cutL xs lo hi))
  | .scr ns => .ret (.lst (cutL (ns.map D.int) lo hi))
  | .str z => if z.length ≤ sizeLine then .ret (.str (cutS z lo hi)) else .bad
  | _ => .bad
def rSlD (K : PySem.W.Frag) (mg : Str → Option Value) (E : XK) : V → Option Int → Option Int → Hp → VK → Prop := fun x lo hi H Q => ∃ g S d, StOk K S g H ∧ Rep K g.F g.θ x d ∧ wp (sliceM lo hi d) S (VP K g H Q) (XP K mg g H E)
theorem cut_whole {α : Type} {xs : List α} {lo hi : Option Int} (h : HT.sIx xs.length 0 lo = 0 ∧ HT.sIx xs.length xs.length hi = xs.length) : cutL xs lo hi = xs := by
  unfold cutL
  rw [h.1, h.2]
  simp
theorem ints_repL0 {K : PySem.W.Frag} {F : Hp} {θ : List Addr} : ∀ cs : List Int, RepL K F θ (cs.map V.int) (cs.map D.int)
  | [] => .nil
  | c :: cs => .cons (.int c) (ints_repL0 cs)
theorem sl_all : SlR X (rSlD X.K X.mg E) := by
  intro pins s σ H x v vl vu lo hi sl Q I rx hs pl pu ⟨g, S, d, ok, r1, h⟩
  cases d with
  | tup xs =>
    obtain ⟨a, vs, rfl, s1, q1⟩ := rep_ref r1
    refine sl_tupA pins s σ H _ v vl vu lo hi sl Q I rx hs pl pu ⟨a, vs, rfl, SqT.sub ok.sub s1, fun e => ?_, fun _ p hp => ?_⟩
    · rw [q1.length] at e
      exact h g H _ .refl ok (by rw [cut_whole e]; exact r1)
    · obtain ⟨ok2, gr2⟩ := ok.laid (o := .tup (cutV vs lo hi)) hp
      exact h _ _ _ gr2 ok2 (.tup (SqT.of upd_same) (gr2.repL (cut_rep lo hi q1)))
  | lst xs =>
    obtain ⟨a, vs, rfl, s1, q1⟩ := rep_refL r1
    refine sl_list pins s σ H _ v vl vu lo hi sl Q I rx hs pl pu ⟨a, vs, rfl, SqL.of (ok.sub _ _ s1), fun p hp => ?_⟩
    obtain ⟨ok2, gr2⟩ := ok.laid (o := .lst (cutV vs lo hi)) hp
    exact h _ _ _ gr2 ok2 (.lst upd_same (gr2.repL (cut_rep lo hi q1)))
  | scr ns =>
    obtain ⟨a, rfl, s1⟩ : ∃ a, x = .ref a ∧ SqL X.K g.F a (ns.map V.int) := by cases r1 with | scr s => exact ⟨_, rfl, s⟩
    refine sl_list pins s σ H _ v vl vu lo hi sl Q I rx hs pl pu ⟨a, _, rfl, SqL.sub ok.sub s1, fun p hp => ?_⟩
    obtain ⟨ok2, gr2⟩ := ok.laid (o := .lst (cutV (ns.map V.int) lo hi)) hp
    exact h _ _ _ gr2 ok2 (.lst upd_same (gr2.repL (cut_rep lo hi (ints_repL0 ns))))
  | str z =>
    cases r1
    obtain ⟨hz, h⟩ := wp_guard h
    exact sl_str pins s σ H _ v vl vu lo hi sl Q I rx hs pl pu ⟨z, rfl, hz, h g H _ .refl ok (.str _)⟩
  | _ => exact h.elim
def pNo : Ev → M (Option Int) := fun _ => .ret none
def pSome (m : Ev → M D) : Ev → M (Option Int) := fun ρ => m ρ >>= fun d => match d with
  | .int i => .ret (some i)
  | _ => .bad
def OP (K : PySem.W.Frag) (g : Gw) (H : Hp) (Q : Option Int → Hp → Prop) : Option Int → List OS → Prop := fun b S' => ∀ g' H', Grow g H g' H' → StOk K S' g' H' → Q b H'
def tO (K : PySem.W.Frag) (mg : Str → Option Value) (E : XK) (m : Ev → M (Option Int)) : TO := fun σ H Q => ∃ g S ρ L, StOk K S g H ∧ EnvOk K L g H σ ρ ∧ wp (m ρ) S (OP K g H Q) (XP K mg g H E)
abbrev RO (X : Cx) (E : XK) (e : Option Expr) (m : Ev → M (Option Int)) : Prop := PO X e (tO X.K X.mg E m)
theorem ro_no : RO X E none pNo := ⟨fun pins s σ H Q I ⟨g, S, ρ, L, ok, en, h⟩ => po_none.run pins s σ H Q I (h g H .refl ok)⟩
theorem ro_some (ha : RE X E a ma) : RO X E (some a) (pSome ma) := ⟨fun pins s σ H Q I ⟨g, S, ρ, L, ok, en, h⟩ => (po_some ha).run pins s σ H Q I ⟨g, S, ρ, L, ok, en, wp_mono (wp_bind.mp h) (fun d S1 h1 g1 H1 v gr ok1 r => by
  cases d with
  | int i => cases r; exact ⟨i, rfl, h1 g1 H1 gr ok1⟩
  | _ => exact h1.elim) fun _ _ z => z⟩⟩
def eSl (ma : Ev → M D) (lo hi : Ev → M (Option Int)) : Ev → M D := fun ρ => ma ρ >>= fun d => lo ρ >>= fun l => hi ρ >>= fun u => sliceM l u d
theorem re_sl {lo hi : Option Expr} {ml mh : Ev → M (Option Int)} {p2 : Pos} (ha : RE X E a ma) (hl : RO X E lo ml) (hh : RO X E hi mh) : RE X E (.Subscript a (.Slice lo hi none p2) pos) (eSl ma ml mh) := by
  refine pe_weak (pe_slice (sl_all (E := E)) ha hl hh) fun σ H Q ⟨g, S, ρ, L, ok, en, h⟩ => ?_
  refine ⟨g, S, ρ, L, ok, en, wp_mono (wp_bind.mp h) (fun d1 S1 h1 g1 H1 v1 gr1 ok1 r1 => ⟨g1, S1, ρ, L, ok1, en.grow gr1, ?_⟩) fun _ _ z => z⟩
  refine wp_mono (wp_bind.mp h1) (fun d2 S2 h2 g2 H2 gr2 ok2 => ⟨g2, S2, ρ, L, ok2, (en.grow gr1).grow gr2, ?_⟩) fun _ _ z => z.grow gr1
  refine wp_mono (wp_bind.mp h2) (fun d3 S3 h3 g3 H3 gr3 ok3 => ⟨g3, S3, d1, ok3, gr3.rep (gr2.rep r1), ?_⟩) fun _ _ z => z.grow (gr1.trans gr2)
  exact wp_mono h3 (fun _ _ z => z.grow (gr1.trans (gr2.trans gr3))) fun _ _ z => z.grow (gr1.trans (gr2.trans gr3))
end
end F
namespace F
open PySem PySem.Spec PyProof.Rows L2
/-! ## built-ins, by data -/
def lenM : D → M D
  | .tup xs => .ret (.int xs.length)
  | .lst xs => .ret (.int xs.length)
  | .str x => if x.length ≤ sizeLine then .ret (.int x.length) else .bad
  | _ => .bad
def blsOf : List D → Option (List Bool)
  | [] => some []
  | .bl b :: r => (blsOf r).map (b :: ·)
  | _ :: _ => none
def intsOf : List D → Option (List Int)
  | [] => some []
  | .int b :: r => (intsOf r).map (b :: ·)
  | _ :: _ => none
def strsOf : List D → Option (List Str)
  | [] => some []
  | .str b :: r => (strsOf r).map (b :: ·)
  | _ :: _ => none
def allM : D → M D
  | .lst xs => match blsOf xs with
    | some bs => .ret (.bl (bs.all id))
    | none => .bad
  | _ => .bad
def anyM : D → M D
  | .lst xs => match blsOf xs with
    | some bs => .ret (.bl (bs.any id))
    | none => .bad
  | _ => .bad
def sumM : D → M D
  | .lst xs => match intsOf xs with
    | some bs => .ret (.int bs.sum)
    | none => .bad
  | _ => .bad
def tupleM : D → M D
  | .lst xs => .ret (.tup xs)
  | .tup xs => .ret (.tup xs)
  | _ => .bad
def listN : D → M (List D)
  | .lst xs => .ret xs
  | .tup xs => .ret xs
  | _ => .bad
def L1 (f : D → M D) : List D → M D
  | [d] => f d
  | _ => .bad
def L1N (f : D → M (List D)) : List D → M (List D)
  | [d] => f d
  | _ => .bad
/-- the ints in order -/
def srtI (ns : List Int) : List Int := ns.mergeSort fun a b => decide (a ≤ b)
def sortedN : D → M (List D)
  | .lst xs => match intsOf xs with
    | some ns => .ret ((srtI ns).map D.int)
    | none => .bad
  | _ => .bad
def intM : D → M D
  | .int i => .ret (.int i)
  | .bl b => .ret (.int (if b then 1 else 0))
  | .str a => match PySem.intText? a with
    | some n => if a.length ≤ 640 then .ret (.int n) else .bad
    | none => .bad
  | _ => .bad
def strM : D → M D
  | .int i => if i.natAbs.log2 < 1920 then .ret (.str (toString i)) else .bad
  | .str a => .ret (.str a)
  | _ => .bad
def maxM : List D → M D
  | [.int i, .int j] => .ret (.int (if j > i then j else i))
  | _ => .bad
def minM : List D → M D
  | [.int i, .int j] => .ret (.int (if j < i then j else i))
  | _ => .bad
section
variable {K : PySem.W.Frag} {F : Hp} {θ : List Addr}
theorem repL_nil {vs : List V} (r : RepL K F θ vs []) : vs = [] := by cases r; rfl
theorem repL_one {vs : List V} {d : D} (r : RepL K F θ vs [d]) : ∃ v, vs = [v] ∧ Rep K F θ v d := by
  cases r with | cons h r => cases r; exact ⟨_, rfl, h⟩
theorem repL_two {vs : List V} {d e : D} (r : RepL K F θ vs [d, e]) : ∃ v w, vs = [v, w] ∧ Rep K F θ v d ∧ Rep K F θ w e := by
  cases r with | cons h r => cases r with | cons h' r => cases r; exact ⟨_, _, rfl, h, h'⟩
theorem blsOf_map : ∀ {ds : List D} {bs : List Bool}, blsOf ds = some bs → ds = bs.map D.bl
  | [], _, h => by cases h; rfl
  | .bl b :: r, bs, h => by
    unfold blsOf at h
    cases e : blsOf r with
    | none => rw [e] at h; cases h
    | some cs => rw [e] at h; cases h; rw [blsOf_map e]; rfl
theorem intsOf_map : ∀ {ds : List D} {bs : List Int}, intsOf ds = some bs → ds = bs.map D.int
  | [], _, h => by cases h; rfl
  | .int b :: r, bs, h => by
    unfold intsOf at h
    cases e : intsOf r with
    | none => rw [e] at h; cases h
    | some cs => rw [e] at h; cases h; rw [intsOf_map e]; rfl
theorem strsOf_map : ∀ {ds : List D} {bs : List Str}, strsOf ds = some bs → ds = bs.map D.str
  | [], _, h => by cases h; rfl
  | .str b :: r, bs, h => by
    unfold strsOf at h
    cases e : strsOf r with
    | none => rw [e] at h; cases h
    | some cs => rw [e] at h; cases h; rw [strsOf_map e]; rfl
@[simp] theorem blsOf_bl (bs : List Bool) : blsOf (bs.map D.bl) = some bs := by
  induction bs with
  | nil => rfl
  | cons b r ih => simp [blsOf, ih]
@[simp] theorem intsOf_int (bs : List Int) : intsOf (bs.map D.int) = some bs := by
  induction bs with
  | nil => rfl
  | cons b r ih => simp [intsOf, ih]
@[simp] theorem strsOf_str (bs : List Str) : strsOf (bs.map D.str) = some bs := by
  induction bs with
  | nil => rfl
  | cons b r ih => simp [strsOf, ih]
theorem repL_bls : ∀ {bs : List Bool} {vs : List V}, RepL K F θ vs (bs.map D.bl) → vs = bs.map V.bl
  | [], _, r => repL_nil r
  | b :: bs, _, .cons h r => by cases h; rw [repL_bls r]; rfl
theorem repL_ints : ∀ {bs : List Int} {vs : List V}, RepL K F θ vs (bs.map D.int) → vs = bs.map V.int
  | [], _, r => repL_nil r
  | b :: bs, _, .cons h r => by cases h; rw [repL_ints r]; rfl
theorem repL_strs : ∀ {bs : List Str} {vs : List V}, RepL K F θ vs (bs.map D.str) → vs = bs.map V.str
  | [], _, r => repL_nil r
  | b :: bs, _, .cons h r => by cases h; rw [repL_strs r]; rfl
theorem ints_repL : ∀ (bs : List Int), RepL K F θ (bs.map V.int) (bs.map D.int)
  | [] => .nil
  | b :: bs => .cons (.int b) (ints_repL bs)
theorem strs_repL : ∀ (bs : List Str), RepL K F θ (bs.map V.str) (bs.map D.str)
  | [] => .nil
  | b :: bs => .cons (.str b) (strs_repL bs)
end
theorem srtI_perm (ns : List Int) : (srtI ns).Perm ns := List.mergeSort_perm ..
theorem srtI_sorted (ns : List Int) : (srtI ns).Pairwise (· ≤ ·) := by
  have h := List.pairwise_mergeSort (le := fun a b : Int => decide (a ≤ b)) (fun a b c h1 h2 => by simp at *; omega) (fun a b => by simp; omega) ns
  exact h.imp fun {a b} h => by simpa using h
theorem sorted_one {ms ns : List Int} (p : ms.Perm ns) (h1 : ms.Pairwise (· ≤ ·)) (h2 : ns.Pairwise (· ≤ ·)) : ms = ns :=
  p.eq_of_pairwise (fun a b _ _ h1 h2 => Int.le_antisymm h1 h2) h1 h2
section
variable {X : Cx} {E : XK}
theorem b_len : CallR X (.builtin "len") (rDL X.K X.mg E (L1 lenM)) := by
  intro pins s σ H xs us Q I rx ⟨g, S, ds, ok, r, h⟩
  have fin : ∀ {d : D} {v : V} {n : Nat}, ds = [d] → xs = [v] → Rep X.K g.F g.θ v d → LenV X.K v H n → wp (M.ret (D.int n)) S (VP X.K g H Q) (XP X.K X.mg g H E) → wpAny (model X.prog X.w) X.A (call (.builtin "len") us) (EP X pins σ Q) X.xe s := by
    rintro d v n rfl rfl hr hl h
    exact call_len pins s σ H _ us Q I rx ⟨v, n, rfl, hl, h g H _ .refl ok (.int _)⟩
  match ds, h with
  | [.tup ys], h =>
    obtain ⟨v, rfl, hr⟩ := repL_one r
    obtain ⟨a, vs, rfl, s1, q1⟩ := rep_ref hr
    exact fin rfl rfl hr (n := ys.length) (.inr ⟨vs, SqT.sub ok.sub s1, q1.length.symm⟩) h
  | [.lst ys], h =>
    obtain ⟨v, rfl, hr⟩ := repL_one r
    obtain ⟨a, vs, rfl, s1, q1⟩ := rep_refL hr
    exact fin rfl rfl hr (n := ys.length) (.inl ⟨vs, SqL.of (ok.sub _ _ s1), q1.length.symm⟩) h
  | [.str z], h =>
    obtain ⟨v, rfl, hr⟩ := repL_one r
    obtain ⟨hz, h⟩ := wp_guard h
    cases hr
    exact fin rfl rfl (.str z) (n := z.length) ⟨hz, rfl⟩ h
  | [], h | _ :: _ :: _, h => exact h.elim
  | [.non], h | [.bl _], h | [.int _], h | [.dic _], h | [.obj _], h | [.scr _], h => exact h.elim
theorem b_all (hc : X.calm = true) : CallR X (.builtin "all") (rDL X.K X.mg E (L1 allM)) := by
  intro pins s σ H xs us Q I rx ⟨g, S, ds, ok, r, h⟩
  match ds, h with
  | [.lst ys], h =>
    obtain ⟨v, rfl, hr⟩ := repL_one r
    obtain ⟨a, vs, rfl, s1, q1⟩ := rep_refL hr
    have h : wp (match blsOf ys with | some bs => M.ret (D.bl (bs.all id)) | none => .bad) S (VP X.K g H Q) (XP X.K X.mg g H E) := h
    cases e : blsOf ys with
    | none => rw [e] at h; exact h.elim
    | some bs =>
      rw [e] at h
      rw [blsOf_map e] at q1
      rw [repL_bls q1] at s1
      exact cr_all hc pins s σ H _ us Q I rx ⟨a, bs, rfl, SqL.of (ok.sub _ _ s1), h g H _ .refl ok (.bl _)⟩
  | [], h | _ :: _ :: _, h => exact h.elim
  | [.non], h | [.bl _], h | [.int _], h | [.str _], h | [.tup _], h | [.dic _], h | [.obj _], h | [.scr _], h => exact h.elim
theorem b_any (hc : X.calm = true) : CallR X (.builtin "any") (rDL X.K X.mg E (L1 anyM)) := by
  intro pins s σ H xs us Q I rx ⟨g, S, ds, ok, r, h⟩
  match ds, h with
  | [.lst ys], h =>
    obtain ⟨v, rfl, hr⟩ := repL_one r
    obtain ⟨a, vs, rfl, s1, q1⟩ := rep_refL hr
    have h : wp (match blsOf ys with | some bs => M.ret (D.bl (bs.any id)) | none => .bad) S (VP X.K g H Q) (XP X.K X.mg g H E) := h
    cases e : blsOf ys with
    | none => rw [e] at h; exact h.elim
    | some bs =>
      rw [e] at h
      rw [blsOf_map e] at q1
      rw [repL_bls q1] at s1
      exact cr_any hc pins s σ H _ us Q I rx ⟨a, bs, rfl, SqL.of (ok.sub _ _ s1), h g H _ .refl ok (.bl _)⟩
  | [], h | _ :: _ :: _, h => exact h.elim
  | [.non], h | [.bl _], h | [.int _], h | [.str _], h | [.tup _], h | [.dic _], h | [.obj _], h | [.scr _], h => exact h.elim
theorem b_sum (hc : X.calm = true) : CallR X (.builtin "sum") (rDL X.K X.mg E (L1 sumM)) := by
  intro pins s σ H xs us Q I rx ⟨g, S, ds, ok, r, h⟩
  match ds, h with
  | [.lst ys], h =>
    obtain ⟨v, rfl, hr⟩ := repL_one r
    obtain ⟨a, vs, rfl, s1, q1⟩ := rep_refL hr
    have h : wp (match intsOf ys with | some bs => M.ret (D.int bs.sum) | none => .bad) S (VP X.K g H Q) (XP X.K X.mg g H E) := h
    cases e : intsOf ys with
    | none => rw [e] at h; exact h.elim
    | some bs =>
      rw [e] at h
      rw [intsOf_map e] at q1
      rw [repL_ints q1] at s1
      exact cr_sum hc pins s σ H _ us Q I rx ⟨a, bs, rfl, SqL.of (ok.sub _ _ s1), h g H _ .refl ok (.int _)⟩
  | [], h | _ :: _ :: _, h => exact h.elim
  | [.non], h | [.bl _], h | [.int _], h | [.str _], h | [.tup _], h | [.dic _], h | [.obj _], h | [.scr _], h => exact h.elim
theorem b_tuple : CallR X (.type "tuple") (rDL X.K X.mg E (L1 tupleM)) := by
  intro pins s σ H xs us Q I rx ⟨g, S, ds, ok, r, h⟩
  match ds, h with
  | [.lst ys], h =>
    obtain ⟨v, rfl, hr⟩ := repL_one r
    obtain ⟨a, vs, rfl, s1, q1⟩ := rep_refL hr
    refine call_tuple_of pins s σ H _ us Q I rx ⟨a, vs, rfl, .inl ⟨SqL.of (ok.sub _ _ s1), fun p hp => ?_⟩⟩
    obtain ⟨ok2, gr2⟩ := ok.laid (o := .tup vs) hp
    exact h _ _ _ gr2 ok2 (.tup (SqT.of upd_same) (gr2.repL q1))
  | [.tup ys], h =>
    obtain ⟨v, rfl, hr⟩ := repL_one r
    obtain ⟨a, vs, rfl, s1, q1⟩ := rep_ref hr
    exact call_tuple_of pins s σ H _ us Q I rx ⟨a, vs, rfl, .inr ⟨SqT.sub ok.sub s1, h g H _ .refl ok hr⟩⟩
  | [], h | _ :: _ :: _, h => exact h.elim
  | [.non], h | [.bl _], h | [.int _], h | [.str _], h | [.dic _], h | [.obj _], h | [.scr _], h => exact h.elim
theorem b_list : CallR X (.type "list") (rDN X.K X.mg E (L1N listN)) := by
  intro pins s σ H xs us Q I rx ⟨g, S, ds, ok, r, h⟩
  have fin : ∀ {a : Addr} {vs : List V} {ys : List D}, xs = [V.ref a] → (SqL X.K H a vs ∨ SqT X.K H a vs) → RepL X.K g.F g.θ vs ys → wp (M.ret ys) S (NP X.K g H Q) (XP X.K X.mg g H E) → wpAny (model X.prog X.w) X.A (call (.type "list") us) (EP X pins σ Q) X.xe s := by
    rintro a vs ys rfl hq q1 h
    refine call_list_of pins s σ H _ us Q I rx ⟨a, vs, rfl, hq, fun p hp => ?_⟩
    obtain ⟨ok2, gr2, hF, hθ⟩ := ok.made (o := .lst vs) hp
    exact h _ _ _ _ gr2 ok2 hp upd_same hF hθ q1
  match ds, h with
  | [.lst ys], h =>
    obtain ⟨v, rfl, hr⟩ := repL_one r
    obtain ⟨a, vs, rfl, s1, q1⟩ := rep_refL hr
    exact fin rfl (.inl (SqL.of (ok.sub _ _ s1))) q1 h
  | [.tup ys], h =>
    obtain ⟨v, rfl, hr⟩ := repL_one r
    obtain ⟨a, vs, rfl, s1, q1⟩ := rep_ref hr
    exact fin rfl (.inr (SqT.sub ok.sub s1)) q1 h
  | [], h | _ :: _ :: _, h => exact h.elim
  | [.non], h | [.bl _], h | [.int _], h | [.str _], h | [.dic _], h | [.obj _], h | [.scr _], h => exact h.elim
theorem b_sorted : CallR X (.builtin "sorted") (rDN X.K X.mg E (L1N sortedN)) := by
  intro pins s σ H xs us Q I rx ⟨g, S, ds, ok, r, h⟩
  match ds, h with
  | [.lst ys], h =>
    obtain ⟨v, rfl, hr⟩ := repL_one r
    obtain ⟨a, vs, rfl, s1, q1⟩ := rep_refL hr
    have h : wp (match intsOf ys with | some ns => M.ret ((srtI ns).map D.int) | none => .bad) S (NP X.K g H Q) (XP X.K X.mg g H E) := h
    cases e : intsOf ys with
    | none => rw [e] at h; exact h.elim
    | some ns =>
      rw [e] at h
      rw [intsOf_map e] at q1
      rw [repL_ints q1] at s1
      refine cr_sortedI pins s σ H _ us Q I rx ⟨a, ns, rfl, SqL.of (ok.sub _ _ s1), fun ms p hp hs hn => ?_⟩
      have em : ms = srtI ns := sorted_one (hp.trans (srtI_perm ns).symm) hs (srtI_sorted ns)
      subst em
      obtain ⟨ok2, gr2, hF, hθ⟩ := ok.made (o := .lst ((srtI ns).map V.int)) hn
      exact h _ _ _ _ gr2 ok2 hn upd_same hF hθ (ints_repL _)
  | [], h | _ :: _ :: _, h => exact h.elim
  | [.non], h | [.bl _], h | [.int _], h | [.str _], h | [.tup _], h | [.dic _], h | [.obj _], h | [.scr _], h => exact h.elim
theorem b_int : CallR X (.type "int") (rDL X.K X.mg E (L1 intM)) := by
  intro pins s σ H xs us Q I rx ⟨g, S, ds, ok, r, h⟩
  match ds, h with
  | [.int i], h =>
    obtain ⟨v, rfl, hr⟩ := repL_one r
    cases hr
    exact call_int1 pins s σ H _ us Q I rx (.inl ⟨i, rfl, h g H _ .refl ok (.int _)⟩)
  | [.bl i], h =>
    obtain ⟨v, rfl, hr⟩ := repL_one r
    cases hr
    exact call_int1 pins s σ H _ us Q I rx (.inr ⟨i, rfl, h g H _ .refl ok (.int _)⟩)
  | [.str a], h =>
    obtain ⟨v, rfl, hr⟩ := repL_one r
    cases hr
    have h : wp (match PySem.intText? a with | some n => if a.length ≤ 640 then M.ret (D.int n) else .bad | none => .bad) S (VP X.K g H Q) (XP X.K X.mg g H E) := h
    cases e : PySem.intText? a with
    | none => rw [e] at h; exact h.elim
    | some n =>
      rw [e] at h
      obtain ⟨hz, h⟩ := wp_guard h
      exact call_int_str pins s σ H _ us Q I rx ⟨a, n, rfl, e, hz, h g H _ .refl ok (.int _)⟩
  | [], h | _ :: _ :: _, h => exact h.elim
  | [.non], h | [.lst _], h | [.tup _], h | [.dic _], h | [.obj _], h | [.scr _], h => exact h.elim
theorem b_str : CallR X (.type "str") (rDL X.K X.mg E (L1 strM)) := by
  intro pins s σ H xs us Q I rx ⟨g, S, ds, ok, r, h⟩
  match ds, h with
  | [.int i], h =>
    obtain ⟨v, rfl, hr⟩ := repL_one r
    cases hr
    obtain ⟨hz, h⟩ := wp_guard h
    exact call_str_int pins s σ H _ us Q I rx ⟨i, rfl, hz, h g H _ .refl ok (.str _)⟩
  | [.str a], h =>
    obtain ⟨v, rfl, hr⟩ := repL_one r
    cases hr
    exact SkE.call_str_str pins s σ H _ us Q I rx ⟨a, rfl, h g H _ .refl ok (.str _)⟩
  | [], h | _ :: _ :: _, h => exact h.elim
  | [.non], h | [.bl _], h | [.lst _], h | [.tup _], h | [.dic _], h | [.obj _], h | [.scr _], h => exact h.elim
theorem b_max (hc : X.calm = true) : CallR X (.builtin "max") (rDL X.K X.mg E maxM) := by
  intro pins s σ H xs us Q I rx ⟨g, S, ds, ok, r, h⟩
  match ds, h with
  | [.int i, .int j], h =>
    obtain ⟨v, w, rfl, hr, hq⟩ := repL_two r
    cases hr; cases hq
    exact call_max2 hc pins s σ H _ us Q I rx ⟨i, j, rfl, h g H _ .refl ok (.int _)⟩
  | [], h => exact h.elim
  | [d], h => cases d <;> exact h.elim
  | d :: e :: _ :: _, h => cases d <;> first | exact h.elim | (cases e <;> exact h.elim)
  | [.non, _], h | [.bl _, _], h | [.str _, _], h | [.lst _, _], h | [.tup _, _], h | [.dic _, _], h | [.obj _, _], h | [.scr _, _], h => exact h.elim
  | [.int _, .non], h | [.int _, .bl _], h | [.int _, .str _], h | [.int _, .lst _], h | [.int _, .tup _], h | [.int _, .dic _], h | [.int _, .obj _], h | [.int _, .scr _], h => exact h.elim
theorem b_min (hc : X.calm = true) : CallR X (.builtin "min") (rDL X.K X.mg E minM) := by
  intro pins s σ H xs us Q I rx ⟨g, S, ds, ok, r, h⟩
  match ds, h with
  | [.int i, .int j], h =>
    obtain ⟨v, w, rfl, hr, hq⟩ := repL_two r
    cases hr; cases hq
    exact call_min2 hc pins s σ H _ us Q I rx ⟨i, j, rfl, h g H _ .refl ok (.int _)⟩
  | [], h => exact h.elim
  | [d], h => cases d <;> exact h.elim
  | d :: e :: _ :: _, h => cases d <;> first | exact h.elim | (cases e <;> exact h.elim)
  | [.non, _], h | [.bl _, _], h | [.str _, _], h | [.lst _, _], h | [.tup _, _], h | [.dic _, _], h | [.obj _, _], h | [.scr _, _], h => exact h.elim
  | [.int _, .non], h | [.int _, .bl _], h | [.int _, .str _], h | [.int _, .lst _], h | [.int _, .tup _], h | [.int _, .dic _], h | [.int _, .obj _], h | [.int _, .scr _], h => exact h.elim
/-! ### isinstance -/
def tyN : D → String
  | .non => "NoneType" | .bl _ => "bool" | .int _ => "int" | .str _ => "str" | .tup _ => "tuple" | .lst _ => "list" | .dic _ => "dict" | .obj _ => "" | .scr _ => ""
def D.ob : D → Bool
  | .obj _ => true
  | .scr _ => true
  | _ => false
def isiB (T t : String) : Bool := t == T || (t == "bool" && T == "int")
def isiM (T : String) (d : D) : M D := match d with
  | .obj _ => .bad
  | .scr _ => .bad
  | d => .ret (.bl (isiB T (tyN d)))
def IsiT (T : String) : Prop := ∀ t ∈ ["NoneType", "bool", "int", "str", "tuple", "list", "dict"], kitB t T = some (isiB T t)
theorem isi_int : IsiT "int" := by unfold IsiT; decide +kernel
theorem isi_bool : IsiT "bool" := by unfold IsiT; decide +kernel
theorem isi_str : IsiT "str" := by unfold IsiT; decide +kernel
theorem isi_tuple : IsiT "tuple" := by unfold IsiT; decide +kernel
theorem isi_list : IsiT "list" := by unfold IsiT; decide +kernel
theorem isi_dict : IsiT "dict" := by unfold IsiT; decide +kernel
theorem ty_rep {K : PySem.W.Frag} {S : List OS} {g : Gw} {H : Hp} {v : V} {d : D} (ok : StOk K S g H) (r : Rep K g.F g.θ v d) (h : d.ob = false) : TyX K H v (.type (tyN d)) := by
  cases r with
  | non => exact .base .non
  | bl b => exact .base (.bl b)
  | int b => exact .base (.int b)
  | str b => exact .base (.str b)
  | tup s r =>
    rcases SqT.sub ok.sub s with (s | ⟨o, s⟩) | ⟨o, its, n, e, c, _⟩
    · exact .base (.tup s)
    · exact .fTuple s
    · exact .kTuple e c
  | lst s r => exact .base (.lst (ok.sub _ _ s))
  | dic s r => exact .base (.dK (ok.sub _ _ s))
  | obj _ => cases h
  | scr _ => cases h
theorem tyN_mem {d : D} (h : d.ob = false) : tyN d ∈ ["NoneType", "bool", "int", "str", "tuple", "list", "dict"] := by
  cases d <;> first | (cases h; done) | simp [tyN]
variable {a : Expr} {ma : Ev → M D} {pos p p2 : Pos} {x : Str} {T : String}
theorem re_isi (hT : IsiT T) (hg : Gl X "isinstance") (hm : X.mg "isinstance" = none) (hgT : Gl X x) (hmT : X.mg x = none) (hv : bootBuiltins x = some (.type T)) (ha : RE X E a ma) (hn : x ≠ "__name__" := by decide) (hdb : (x == ("__debug__" : Str)) = false := by decide)
    (h1 : starEach [a, .Name x p2] X.env = (false, eval a X.env) :: starEach [.Name x p2] X.env := by rfl) (h2 : starEach [.Name x p2] X.env = (false, eval (.Name x p2) X.env) :: starEach [] X.env := by rfl) (hpl : (backTo pos (starEach [.Name x p2] X.env)).any (·.1) = false := by rfl) :
    RE X E (.Call (.Name "isinstance" p) [a, .Name x p2] [] pos) (eUn (isiM T) ma) := by
  refine pe_weak (pe_callB call_isi hg hm (by decide +kernel) (pa_cons ha (pa_cons (pe_bltn (v := .ty T) hgT hmT hv rfl hn hdb) pa_nil h2) h1) (by decide) (by decide) h1 hpl) fun σ H Q ⟨g, S, ρ, L, ok, en, h⟩ => ?_
  refine ⟨g, S, ρ, L, ok, en, wp_mono (wp_bind.mp h) (fun d S1 h1 g1 H1 v gr ok1 r => ?_) fun _ _ z => z⟩
  by_cases ho : d.ob = true
  · cases d <;> first | (cases ho; done) | exact h1.elim
  · have ho : d.ob = false := by simpa using ho
    have h1 : wp (M.ret (D.bl (isiB T (tyN d)))) S1 (VP X.K g H Q) (XP X.K X.mg g H E) := by
      cases d <;> first | exact h1 | (cases ho; done)
    exact ⟨v, .ty T, .type (tyN d), .type T, _, rfl, .ty T, ty_rep ok1 r ho, kit_ty (hT _ (tyN_mem ho)), h1 g1 H1 _ gr ok1 (.bl _)⟩
end
end F
namespace F
open PySem PySem.Spec PyProof.Rows L2 RZ
/-! ## what is walked -/
/-- from (g, H) on the walk J gives out ds -/
structure Yields (K : PySem.W.Frag) (J : It) (g : Gw) (H : Hp) (ds : List D) : Prop where
  go : ∀ g1 H1 (i : Nat) d S, Ext g g1 → StOk K S g1 H1 → ds[i]? = some d → J.go i H1 ∧ ∀ x H2, J.yld i H1 x H2 → ∃ g2, Grow g1 H1 g2 H2 ∧ StOk K S g2 H2 ∧ Rep K g2.F g2.θ x d
  stop : ∀ g1 H1 (i : Nat) S, Ext g g1 → StOk K S g1 H1 → ds.length ≤ i → J.stop i H1
def IP (K : PySem.W.Frag) (g : Gw) (H : Hp) (R : It → Hp → Prop) : List D → List OS → Prop := fun ds S' => ∀ g' H' J, Grow g H g' H' → StOk K S' g' H' → Yields K J g' H' ds → R J H'
def tI (K : PySem.W.Frag) (mg : Str → Option Value) (E : XK) (m : Ev → M (List D)) : TI := fun σ H R => ∃ g S ρ L, StOk K S g H ∧ EnvOk K L g H σ ρ ∧ wp (m ρ) S (IP K g H R) (XP K mg g H E)
abbrev RI (X : Cx) (E : XK) (tg e : Expr) (m : Ev → M (List D)) : Prop := PI X tg e (tI X.K X.mg E m)
theorem pi_weak {X : Cx} {tg e : Expr} {t t' : TI} (h : PI X tg e t) (w : ∀ σ H R, t' σ H R → t σ H R) : PI X tg e t' := ⟨fun pins s σ H Q I q => h.run pins s σ H Q I (w σ H Q q)⟩
section
variable {K : PySem.W.Frag} {g : Gw} {H : Hp} {ds : List D} {vs : List V} {a : Addr}
theorem y_list (hF : g.F a = some (.lst vs)) (r : RepL K g.F g.θ vs ds) : Yields K (Itl K a) g H ds := by
  refine ⟨fun g1 H1 i d S gr ok e => ?_, fun g1 H1 i S gr ok e => ⟨vs, SqL.of (ok.sub _ _ (gr.fm _ _ hF)), by rw [r.length]; exact e⟩⟩
  obtain ⟨v, ev, rv⟩ := r.get e
  have hS : SqL K H1 a vs := SqL.of (ok.sub _ _ (gr.fm _ _ hF))
  refine ⟨⟨vs, v, hS, ev⟩, fun x H2 y => ?_⟩
  obtain ⟨rfl, hx⟩ := y
  have e2 : v = x := Option.some.inj (ev.symm.trans (hx _ hS))
  subst e2
  exact ⟨g1, .refl, ok, gr.rep rv⟩
theorem y_tup (hF : SqT K g.F a vs) (r : RepL K g.F g.θ vs ds) : Yields K (Itt K a) g H ds := by
  refine ⟨fun g1 H1 i d S gr ok e => ?_, fun g1 H1 i S gr ok e => ⟨vs, SqT.sub ok.sub (SqT.sub gr.fm hF), by rw [r.length]; exact e⟩⟩
  obtain ⟨v, ev, rv⟩ := r.get e
  have hS : SqT K H1 a vs := SqT.sub ok.sub (SqT.sub gr.fm hF)
  refine ⟨⟨vs, v, hS, ev⟩, fun x H2 y => ?_⟩
  obtain ⟨rfl, hx⟩ := y
  have e2 : v = x := Option.some.inj (ev.symm.trans (hx _ hS))
  subst e2
  exact ⟨g1, .refl, ok, gr.rep rv⟩
def rangeD (lo : Int) (n : Nat) : List D := (List.range n).map fun i => D.int (lo + (i : Nat))
theorem rangeD_get {lo : Int} {n i : Nat} {d : D} (e : (rangeD lo n)[i]? = some d) : i < n ∧ d = .int (lo + i) := by
  unfold rangeD at e
  rw [List.getElem?_map] at e
  by_cases h : i < n
  · rw [List.getElem?_range h] at e
    exact ⟨h, (Option.some.inj e).symm⟩
  · rw [List.getElem?_eq_none (by simpa using h)] at e; cases e
theorem y_range {lo : Int} {n : Nat} : Yields K (Itr lo n) g H (rangeD lo n) := by
  refine ⟨fun g1 H1 i d S gr ok e => ?_, fun g1 H1 i S gr ok e => (by simpa [rangeD] using e : n ≤ i)⟩
  obtain ⟨h, rfl⟩ := rangeD_get e
  refine ⟨h, fun x H2 y => ?_⟩
  obtain ⟨rfl, rfl⟩ := y
  exact ⟨g1, .refl, ok, .int _⟩
def strD (x : Str) : List D := x.cps.toList.map fun c => D.str ⟨#[c]⟩
theorem y_str {x : Str} : Yields K (Its x) g H (strD x) := by
  refine ⟨fun g1 H1 i d S gr ok e => ?_, fun g1 H1 i S gr ok e => by simpa [strD, Its] using e⟩
  unfold strD at e
  rw [List.getElem?_map] at e
  cases q : x.cps.toList[i]? with
  | none => rw [q] at e; cases e
  | some c =>
    rw [q] at e
    have e := Option.some.inj e
    have q' : x.cps[i]? = some c := by simpa using q
    have hl : i < x.cps.size := (Array.getElem?_eq_some_iff.mp q').1
    refine ⟨hl, fun y H2 h => ?_⟩
    obtain ⟨rfl, c', h1, rfl⟩ := h
    rw [q'] at h1
    cases h1
    exact ⟨g1, .refl, ok, by rw [← e]; exact .str _⟩
def zipD (xs ys : List D) : List D := (xs.zip ys).map fun p => D.tup [p.1, p.2]
theorem zipD_get {xs ys : List D} {i : Nat} {d : D} (e : (zipD xs ys)[i]? = some d) : ∃ x y, xs[i]? = some x ∧ ys[i]? = some y ∧ d = .tup [x, y] := by
  unfold zipD at e
  rw [List.getElem?_map] at e
  cases q : (xs.zip ys)[i]? with
  | none => rw [q] at e; cases e
  | some p =>
    rw [q] at e
    obtain ⟨x, y⟩ := p
    rw [List.getElem?_zip_eq_some] at q
    exact ⟨x, y, q.1, q.2, (Option.some.inj e).symm⟩
theorem zipD_len {xs ys : List D} {i : Nat} (e : (zipD xs ys).length ≤ i) : xs.length ≤ i ∨ ys.length ≤ i := by
  unfold zipD at e
  rw [List.length_map, List.length_zip] at e
  omega
theorem y_zipL {b : Addr} {es : List D} {ws : List V} (hF : g.F a = some (.lst vs)) (r : RepL K g.F g.θ vs ds) (hG : g.F b = some (.lst ws)) (r2 : RepL K g.F g.θ ws es) : Yields K (Itz K a b) g H (zipD ds es) := by
  refine ⟨fun g1 H1 i d S gr ok e => ?_, fun g1 H1 i S gr ok e => ⟨vs, ws, SqL.of (ok.sub _ _ (gr.fm _ _ hF)), SqL.of (ok.sub _ _ (gr.fm _ _ hG)), by rw [r.length, r2.length]; exact zipD_len e⟩⟩
  obtain ⟨x, y, e1, e2, rfl⟩ := zipD_get e
  obtain ⟨v, ev, rv⟩ := r.get e1
  obtain ⟨w, ew, rw_⟩ := r2.get e2
  have hS : SqL K H1 a vs := SqL.of (ok.sub _ _ (gr.fm _ _ hF))
  have hT : SqL K H1 b ws := SqL.of (ok.sub _ _ (gr.fm _ _ hG))
  refine ⟨⟨vs, ws, v, w, hS, hT, ev, ew⟩, fun z H2 h => ?_⟩
  obtain ⟨T, x', y', rfl, hn, rfl, hx, hy⟩ := h
  have q1 : v = x' := Option.some.inj (ev.symm.trans (hx _ hS))
  have q2 : w = y' := Option.some.inj (ew.symm.trans (hy _ hT))
  subst q1 q2
  obtain ⟨ok2, gr2⟩ := ok.laid (o := .tup [v, w]) hn
  exact ⟨_, gr2, ok2, .tup (SqT.of upd_same) (gr2.repL (gr.repL (.cons rv (.cons rw_ .nil))))⟩
theorem y_zipT {b : Addr} {es : List D} {ws : List V} (hF : SqT K g.F a vs) (r : RepL K g.F g.θ vs ds) (hG : SqT K g.F b ws) (r2 : RepL K g.F g.θ ws es) : Yields K (ItzT K a b) g H (zipD ds es) := by
  refine ⟨fun g1 H1 i d S gr ok e => ?_, fun g1 H1 i S gr ok e => ⟨vs, ws, SqT.sub ok.sub (SqT.sub gr.fm hF), SqT.sub ok.sub (SqT.sub gr.fm hG), by rw [r.length, r2.length]; exact zipD_len e⟩⟩
  obtain ⟨x, y, e1, e2, rfl⟩ := zipD_get e
  obtain ⟨v, ev, rv⟩ := r.get e1
  obtain ⟨w, ew, rw_⟩ := r2.get e2
  have hS : SqT K H1 a vs := SqT.sub ok.sub (SqT.sub gr.fm hF)
  have hT : SqT K H1 b ws := SqT.sub ok.sub (SqT.sub gr.fm hG)
  refine ⟨⟨vs, ws, v, w, hS, hT, ev, ew⟩, fun z H2 h => ?_⟩
  obtain ⟨T, x', y', rfl, hn, rfl, hx, hy⟩ := h
  have q1 : v = x' := Option.some.inj (ev.symm.trans (hx _ hS))
  have q2 : w = y' := Option.some.inj (ew.symm.trans (hy _ hT))
  subst q1 q2
  obtain ⟨ok2, gr2⟩ := ok.laid (o := .tup [v, w]) hn
  exact ⟨_, gr2, ok2, .tup (SqT.of upd_same) (gr2.repL (gr.repL (.cons rv (.cons rw_ .nil))))⟩
end
section
variable {X : Cx} {E : XK} {tg a b : Expr} {ma mb : Ev → M D} {pos p : Pos}
def itM : D → M (List D)
  | .lst xs => .ret xs
  | .tup xs => .ret xs
  | .str x => .ret (strD x)
  | _ => .bad
def iAny (m : Ev → M D) : Ev → M (List D) := fun ρ => m ρ >>= itM
theorem ri_any (ha : RE X E a ma) : RI X E tg a (iAny ma) := by
  refine ⟨fun pins s σ H R I ⟨g, S, ρ, L, ok, en, h⟩ => ?_⟩
  have q : tE X.K X.mg E ma σ H (fun x H1 => ∃ g1 S1 d, Grow g H g1 H1 ∧ StOk X.K S1 g1 H1 ∧ Rep X.K g1.F g1.θ x d ∧ wp (itM d) S1 (IP X.K g H R) (XP X.K X.mg g H E)) :=
    ⟨g, S, ρ, L, ok, en, wp_mono (wp_bind.mp h) (fun d S1 h1 g1 H1 v gr ok1 r => ⟨g1, S1, d, gr, ok1, r, h1⟩) fun _ _ z => z⟩
  refine thn (ha.run pins s σ H _ I q) fun v s1 ⟨x, H1, I1, r1, g1, S1, d, gr, ok1, rp, h1⟩ => ?_
  cases d with
  | lst xs =>
    obtain ⟨l, vs, rfl, hF, rl⟩ := rep_refL rp
    cases r1
    have hq : SqL X.K H1 l vs := SqL.of (ok1.sub _ _ hF)
    obtain ⟨its, rv, pl, hz⟩ := I1.list hq
    refine wpAny_pyIter_list pl.isList ⟨_, [s1.heap.objs.size], _, Itl X.K l, H1, rfl, I1.kept (t' := s1.toks) (fun b o e => Heap.get?_push_of_some _ e), turn_list l _, ⟨_, Heap.get?_push_size _ rfl, rfl, rfl⟩, fun b hb => ?_, ?_⟩
    · obtain rfl : b = s1.heap.objs.size := by simpa using hb
      exact I1.fpOk (Nat.le_refl _) (I1.hok.fresh (Nat.le_refl _))
    · exact h1 g1 H1 _ gr ok1 (y_list hF rl)
  | tup xs =>
    obtain ⟨l, vs, rfl, hF, rl⟩ := rep_ref rp
    cases r1
    have hq : SqT X.K H1 l vs := SqT.sub ok1.sub hF
    obtain ⟨its, rv, pl, hz⟩ := I1.tuple hq
    refine wpAny_pyIter_tuple (show s1.heap.IsTuple l its.toArray from pl) ⟨_, [s1.heap.objs.size], _, Itt X.K l, H1, rfl, I1.kept (t' := s1.toks) (fun b o e => Heap.get?_push_of_some _ e), turn_tuple l _, ⟨_, Heap.get?_push_size _ rfl, rfl, rfl⟩, fun b hb => ?_, ?_⟩
    · obtain rfl : b = s1.heap.objs.size := by simpa using hb
      exact I1.fpOk (Nat.le_refl _) (I1.hok.fresh (Nat.le_refl _))
    · exact h1 g1 H1 _ gr ok1 (y_tup hF rl)
  | str x =>
    cases rp
    obtain ⟨t, rfl⟩ := r1
    have q := h1 g1 H1 _ gr ok1 (y_str (x := x))
    cases hu : x.cps.all (· < 128)
    · exact wpAny_pyIter_wide hu (pi_one (tk := s1.toks) I1 _ (turn_str _ x t "str_iterator" (.inr rfl)) ⟨_, Heap.get?_push_size _ rfl, rfl, rfl⟩ q)
    · exact wpAny_pyIter_ascii hu (pi_one (tk := s1.toks) I1 _ (turn_str _ x t "str_ascii_iterator" (.inl rfl)) ⟨_, Heap.get?_push_size _ rfl, rfl, rfl⟩ q)
  | _ => exact h1.elim
def itStr : D → M (List D)
  | .str x => .ret (strD x)
  | _ => .bad
def iStrM (m : Ev → M D) : Ev → M (List D) := fun ρ => m ρ >>= itStr
theorem ri_str (ha : RE X E a ma) : RI X E tg a (iStrM ma) := by
  refine pi_weak (pi_str ha) fun σ H R ⟨g, S, ρ, L, ok, en, h⟩ => ⟨g, S, ρ, L, ok, en, ?_⟩
  refine wp_mono (wp_bind.mp h) (fun d S1 h1 g1 H1 v gr ok1 r => ?_) fun _ _ z => z
  cases d with
  | str x => cases r; exact ⟨x, rfl, h1 g1 H1 _ gr ok1 y_str⟩
  | _ => exact h1.elim
/-- range(n), range(a, b) -/
def rng1 : List D → M (List D)
  | [.int j] => if -(2 ^ 62) ≤ j ∧ j < 2 ^ 62 then .ret (rangeD 0 j.toNat) else .bad
  | _ => .bad
def rng2 : List D → M (List D)
  | [.int i, .int j] => if -(2 ^ 62) ≤ i ∧ i < 2 ^ 62 ∧ -(2 ^ 62) ≤ j ∧ j < 2 ^ 62 then .ret (rangeD i (j - i).toNat) else .bad
  | _ => .bad
def iR1 (m : Ev → M (List D)) : Ev → M (List D) := fun ρ => m ρ >>= rng1
def iR2 (m : Ev → M (List D)) : Ev → M (List D) := fun ρ => m ρ >>= rng2
theorem ri_range1 {m : Ev → M (List D)} (hg : Gl X "range") (hm : X.mg "range" = none) (ha : RA X E [a] m) (hs : starEach [a] X.env = [(false, eval a X.env)] := by rfl) : RI X E tg (.Call (.Name "range" p) [a] [] pos) (iR1 m) := by
  refine pi_weak (pi_range1 hg hm ha hs) fun σ H R ⟨g, S, ρ, L, ok, en, h⟩ => ⟨g, S, ρ, L, ok, en, ?_⟩
  refine wp_mono (wp_bind.mp h) (fun d S1 h1 g1 H1 v gr ok1 r => ?_) fun _ _ z => z
  match d, h1 with
  | [.int j], h1 =>
    obtain ⟨w, rfl, hw⟩ := repL_one r
    cases hw
    obtain ⟨⟨h2, h3⟩, h1⟩ := wp_guard h1
    exact ⟨j, rfl, h2, h3, h1 g1 H1 _ gr ok1 y_range⟩
  | [], h1 => exact h1.elim
  | [.non], h1 | [.bl _], h1 | [.str _], h1 | [.tup _], h1 | [.lst _], h1 | [.dic _], h1 | [.obj _], h1 => exact h1.elim
  | d :: _ :: _, h1 => cases d <;> exact h1.elim
theorem ri_range2 {m : Ev → M (List D)} (hg : Gl X "range") (hm : X.mg "range" = none) (ha : RA X E [a, b] m) (hs : starEach [a, b] X.env = [(false, eval a X.env), (false, eval b X.env)] := by rfl) (hs2 : starEach [b] X.env = [(false, eval b X.env)] := by rfl) :
    RI X E tg (.Call (.Name "range" p) [a, b] [] pos) (iR2 m) := by
  refine pi_weak (pi_range2 hg hm ha hs hs2) fun σ H R ⟨g, S, ρ, L, ok, en, h⟩ => ⟨g, S, ρ, L, ok, en, ?_⟩
  refine wp_mono (wp_bind.mp h) (fun d S1 h1 g1 H1 v gr ok1 r => ?_) fun _ _ z => z
  match d, h1 with
  | [.int i, .int j], h1 =>
    obtain ⟨w, u, rfl, hw, hu⟩ := repL_two r
    cases hw; cases hu
    obtain ⟨h2, h1⟩ := wp_guard h1
    exact ⟨i, j, rfl, h2, h1 g1 H1 _ gr ok1 y_range⟩
  | [], h1 => exact h1.elim
  | [d], h1 => cases d <;> exact h1.elim
  | [.int _, .non], h1 | [.int _, .bl _], h1 | [.int _, .str _], h1 | [.int _, .tup _], h1 | [.int _, .lst _], h1 | [.int _, .dic _], h1 | [.int _, .obj _], h1 => exact h1.elim
  | [.non, _], h1 | [.bl _, _], h1 | [.str _, _], h1 | [.tup _, _], h1 | [.lst _, _], h1 | [.dic _, _], h1 | [.obj _, _], h1 => exact h1.elim
  | d :: e :: _ :: _, h1 => cases d <;> first | exact h1.elim | (cases e <;> exact h1.elim)
/-- zip -/
def zipM : List D → M (List D)
  | [.lst xs, .lst ys] => .ret (zipD xs ys)
  | [.tup xs, .tup ys] => .ret (zipD xs ys)
  | _ => .bad
def iZipM (m : Ev → M (List D)) : Ev → M (List D) := fun ρ => m ρ >>= zipM
theorem ri_zip {m : Ev → M (List D)} {tpos : Pos} {elts : List Expr} {kk : Nat} (hg : Gl X "zip") (hm : X.mg "zip" = none) (ha : RA X E [a, b] m)
    (hs : starEach [a, b] X.env = (false, eval a X.env) :: starEach [b] X.env := by rfl) (hpl : (backTo pos (starEach [b] X.env)).any (·.1) = false := by rfl) : RI X E (.Tuple elts kk tpos) (.Call (.Name "zip" p) [a, b] [] pos) (iZipM m) := by
  refine pi_weak (pi_zipA hg hm ha hs hpl) fun σ H R ⟨g, S, ρ, L, ok, en, h⟩ => ⟨g, S, ρ, L, ok, en, ?_⟩
  refine wp_mono (wp_bind.mp h) (fun d S1 h1 g1 H1 v gr ok1 r => ?_) fun _ _ z => z
  match d, h1 with
  | [.lst xs, .lst ys], h1 =>
    obtain ⟨w, u, rfl, hw, hu⟩ := repL_two r
    obtain ⟨l, vs, rfl, hF, rl⟩ := rep_refL hw
    obtain ⟨l2, vs2, rfl, hF2, rl2⟩ := rep_refL hu
    exact ⟨l, l2, vs, vs2, rfl, .inl ⟨SqL.of (ok1.sub _ _ hF), SqL.of (ok1.sub _ _ hF2), h1 g1 H1 _ gr ok1 (y_zipL hF rl hF2 rl2)⟩⟩
  | [.tup xs, .tup ys], h1 =>
    obtain ⟨w, u, rfl, hw, hu⟩ := repL_two r
    obtain ⟨l, vs, rfl, hF, rl⟩ := rep_ref hw
    obtain ⟨l2, vs2, rfl, hF2, rl2⟩ := rep_ref hu
    exact ⟨l, l2, vs, vs2, rfl, .inr ⟨SqT.sub ok1.sub hF, SqT.sub ok1.sub hF2, h1 g1 H1 _ gr ok1 (y_zipT hF rl hF2 rl2)⟩⟩
  | [], h1 => exact h1.elim
  | [d], h1 => cases d <;> exact h1.elim
  | [.lst _, .non], h1 | [.lst _, .bl _], h1 | [.lst _, .str _], h1 | [.lst _, .tup _], h1 | [.lst _, .int _], h1 | [.lst _, .dic _], h1 | [.lst _, .obj _], h1 => exact h1.elim
  | [.tup _, .non], h1 | [.tup _, .bl _], h1 | [.tup _, .str _], h1 | [.tup _, .lst _], h1 | [.tup _, .int _], h1 | [.tup _, .dic _], h1 | [.tup _, .obj _], h1 => exact h1.elim
  | [.non, _], h1 | [.bl _, _], h1 | [.str _, _], h1 | [.int _, _], h1 | [.dic _, _], h1 | [.obj _, _], h1 => exact h1.elim
  | d :: e :: _ :: _, h1 => cases d <;> first | exact h1.elim | (cases e <;> exact h1.elim)
end
/-! ## targets -/
abbrev GM := D → Ev → Option Ev
/-- a store to the slots ts alone -/
def tG (K : PySem.W.Frag) (ts : List Nat) (m : GM) : TG := fun v σ H Q => ∃ g S ρ L d ρ', StOk K S g H ∧ EnvOk K L g H σ ρ ∧ Rep K g.F g.θ v d ∧ m d ρ = some ρ' ∧
  ∀ σ', EnvOk K L g H σ' ρ' → σ'.length = σ.length → (∀ j, j ∉ ts → σ'[j]? = σ[j]?) → Q σ' H
def tGs (K : PySem.W.Frag) (ts : List Nat) (m : List D → Ev → Option Ev) : TGs := fun v σ H Q => ∃ g S ρ L d ρ', StOk K S g H ∧ EnvOk K L g H σ ρ ∧ RepL K g.F g.θ v d ∧ m d ρ = some ρ' ∧
  ∀ σ', EnvOk K L g H σ' ρ' → σ'.length = σ.length → (∀ j, j ∉ ts → σ'[j]? = σ[j]?) → Q σ' H
abbrev RG (X : Cx) (e : Expr) (ts : List Nat) (m : GM) : Prop := PG X e (tG X.K ts m)
abbrev RGs (X : Cx) (e : List Expr) (ts : List Nat) (m : List D → Ev → Option Ev) : Prop := PGs X e (tGs X.K ts m)
section
variable {X : Cx} {pos : Pos}
theorem pg_weak {e : Expr} {t t' : TG} (h : PG X e t) (w : ∀ v σ H Q, t' v σ H Q → t v σ H Q) : PG X e t' := ⟨fun pins s σ H v u Q I r q => h.run pins s σ H v u Q I r (w v σ H Q q)⟩
theorem pgs_weak {e : List Expr} {t t' : TGs} (h : PGs X e t) (w : ∀ v σ H Q, t' v σ H Q → t v σ H Q) : PGs X e t' := ⟨fun pins s σ H v u Q I r q => h.run pins s σ H v u Q I r (w v σ H Q q)⟩
def gN (i : Nat) : GM := fun d ρ => some (ρ.set i (.v d))
theorem rg_name (i : Nat) {x : Str} (hN : X.N.Nodup) (hi : X.N[i]? = some x := by rfl) (hx : Loc X.env.scope x := by first | exact Or.inl rfl | exact Or.inr rfl) (hf : X.fn x = true ∨ X.env.scope.names.lookup x = some .local := by first | exact .inl rfl | exact .inr rfl) : RG X (.Name x pos) [i] (gN i) := by
  refine pg_weak (pg_name hN hi hx hf) fun v σ H Q ⟨g, S, ρ, L, d, ρ', ok, en, r, e, h⟩ => ?_
  cases e
  exact h (σ.set i (some v)) (en.setv i r) (by simp) fun j hj => List.getElem?_set_ne (fun e => hj (by simp [e]))
def gAll0 : List D → Ev → Option Ev
  | [], ρ => some ρ
  | _, _ => none
def gAll1 (m : GM) (ms : List D → Ev → Option Ev) : List D → Ev → Option Ev
  | d :: ds, ρ => (m d ρ).bind fun ρ' => ms ds ρ'
  | _, _ => none
theorem rgs_nil : RGs X [] [] gAll0 := by
  refine pgs_weak pgs_nil fun v σ H Q ⟨g, S, ρ, L, d, ρ', ok, en, r, e, h⟩ => ?_
  cases d with
  | nil => cases r; cases e; exact ⟨rfl, h σ en rfl fun _ _ => rfl⟩
  | cons _ _ => cases e
theorem rgs_cons {e : Expr} {es : List Expr} {ts us : List Nat} {m : GM} {ms : List D → Ev → Option Ev} (h1 : RG X e ts m) (h2 : RGs X es us ms) (hs : (assignEach (e :: es) X.env).map (·.2) = assign e X.env :: (assignEach es X.env).map (·.2) := by rfl) : RGs X (e :: es) (ts ++ us) (gAll1 m ms) := by
  refine pgs_weak (pgs_cons h1 h2 hs) fun v σ H Q ⟨g, S, ρ, L, d, ρ', ok, en, r, e, h⟩ => ?_
  cases d with
  | nil => cases e
  | cons d ds =>
    cases r with
    | @cons v _ vs _ r rs =>
      have e : (m d ρ).bind (fun ρ' => ms ds ρ') = some ρ' := e
      cases em : m d ρ with
      | none => rw [em] at e; cases e
      | some ρ1 =>
        rw [em] at e
        have e : ms ds ρ1 = some ρ' := e
        refine ⟨v, vs, rfl, g, S, ρ, L, d, ρ1, ok, en, r, em, fun σ1 en1 l1 o1 => ⟨g, S, ρ1, L, ds, ρ', ok, en1, rs, e, fun σ2 en2 l2 o2 => h σ2 en2 (l2.trans l1) fun j hj => ?_⟩⟩
        rw [List.mem_append] at hj
        exact (o2 j fun z => hj (.inr z)).trans (o1 j fun z => hj (.inl z))
/-- (a, b, ..): n of them -/
def gTn (n : Nat) (ms : List D → Ev → Option Ev) : GM := fun d ρ => match d with
  | .tup ds => if ds.length = n then ms ds ρ else none
  | _ => none
theorem rg_tup {es : List Expr} {k : Nat} {ts : List Nat} {ms : List D → Ev → Option Ev} (n : Nat) (hc : X.calm = true) (h : RGs X es ts ms) (hn : (assignEach es X.env).length = n := by rfl) (hst : (assignEach es X.env).findIdx? (·.1) = none := by rfl) : RG X (.Tuple es k pos) ts (gTn n ms) := by
  refine pg_weak (pg_tup hc h hn hst) fun v σ H Q ⟨g, S, ρ, L, d, ρ', ok, en, r, e, h⟩ => ?_
  cases d with
  | tup ds =>
    obtain ⟨a, vs, rfl, hF, rl⟩ := rep_ref r
    have e : (if ds.length = n then ms ds ρ else none) = some ρ' := e
    by_cases hl : ds.length = n
    · rw [if_pos hl] at e
      exact ⟨a, vs, rfl, SqT.sub ok.sub hF, rl.length.trans hl, g, S, ρ, L, ds, ρ', ok, en, rl, e, h⟩
    · rw [if_neg hl] at e; cases e
  | _ => cases e
end
/-! ## list comprehensions -/
def wipeE (ρ : Ev) : List Nat → Ev
  | [] => ρ
  | v :: vs => (wipeE ρ vs).set v .no
section
variable {K : PySem.W.Frag} {L : Addr → Prop} {g : Gw} {H : Hp} {σ : L2.St} {ρ : Ev}
theorem EnvOk.setno (en : EnvOk K L g H σ ρ) (i : Nat) (w : Option V) : EnvOk K L g H (σ.set i w) (ρ.set i .no) := by
  refine ⟨by simp [en.len], fun j sv sl h1 h2 => ?_, fun j k a x y hjk h1 h2 h3 h4 h5 h6 => ?_⟩
  · by_cases e : i = j
    · subst e
      have hl : i < ρ.length := by simpa using (List.getElem?_eq_some_iff.mp h2).1
      rw [List.getElem?_set_self hl] at h2
      cases h2; trivial
    · rw [List.getElem?_set_ne e] at h1 h2
      exact en.ok j sv sl h1 h2
  · have key : ∀ (m : Nat) (z : Sl), (ρ.set i .no)[m]? = some z → z.isOwn = true → m ≠ i ∧ ρ[m]? = some z := fun m z h ho => by
      by_cases e : i = m
      · subst e
        have hl : i < ρ.length := by simpa using (List.getElem?_eq_some_iff.mp h).1
        rw [List.getElem?_set_self hl] at h
        cases h; cases ho
      · rw [List.getElem?_set_ne e] at h
        exact ⟨Ne.symm e, h⟩
    obtain ⟨n1, q1⟩ := key j x h3 h5
    obtain ⟨n2, q2⟩ := key k y h4 h6
    rw [List.getElem?_set_ne (Ne.symm n1)] at h1
    rw [List.getElem?_set_ne (Ne.symm n2)] at h2
    exact en.dis j k a x y hjk h1 h2 q1 q2 h5 h6
theorem EnvOk.wipe (en : EnvOk K L g H σ ρ) : ∀ vs : List Nat, EnvOk K L g H (wipe σ vs) (wipeE ρ vs)
  | [] => en
  | v :: vs => (EnvOk.wipe en vs).setno v none
theorem wipe_same {σ σ' : L2.St} (hl : σ'.length = σ.length) : ∀ {vs : List Nat}, (∀ j, j ∉ vs → σ'[j]? = σ[j]?) → wipe σ' vs = wipe σ vs := by
  intro vs h
  apply List.ext_getElem?
  intro j
  have key : ∀ (τ : L2.St) (vs : List Nat), (wipe τ vs)[j]? = if j ∈ vs ∧ j < τ.length then some none else τ[j]? := by
    intro τ vs
    induction vs with
    | nil => simp [wipe]
    | cons v vs ih =>
      show ((wipe τ vs).set v none)[j]? = _
      by_cases e : v = j
      · subst e
        by_cases hj : v < τ.length
        · rw [List.getElem?_set_self (by rw [wipe_length]; exact hj), if_pos ⟨List.mem_cons_self, hj⟩]
        · rw [List.getElem?_eq_none (by rw [List.length_set, wipe_length]; omega), if_neg (fun z => hj z.2), List.getElem?_eq_none (by omega)]
      · rw [List.getElem?_set_ne e, ih]
        have : (j ∈ v :: vs ∧ j < τ.length) ↔ (j ∈ vs ∧ j < τ.length) := by simp [Ne.symm e]
        simp only [this]
  rw [key, key, hl]
  split
  · rfl
  · rename_i hn
    by_cases hj : j ∈ vs
    · have hz : ¬ j < σ.length := fun z => hn ⟨hj, z⟩
      rw [List.getElem?_eq_none (by omega), List.getElem?_eq_none (by omega)]
    · exact h j hj
end
/-- the turns: what an item gives (none: the test fails) -/
def compM (f : D → M (Option D)) : List D → M (List D)
  | [] => .ret []
  | d :: ds => f d >>= fun o => compM f ds >>= fun r => .ret (o.toList ++ r)
def compI (gm : GM) (tm : Ev → M Bool) (em : Ev → M D) (ρ : Ev) (d : D) : M (Option D) := match gm d ρ with
  | some ρ' => tm ρ' >>= fun b => match b with
    | true => em ρ' >>= fun y => .ret (some y)
    | false => .ret none
  | none => .bad
def tYesM : Ev → M Bool := fun _ => .ret true
/-- [e for g in it if t], the comprehension's own slots vs -/
def nComp (vs : List Nat) (it : Ev → M (List D)) (gm : GM) (tm : Ev → M Bool) (em : Ev → M D) : Ev → M (List D) := fun ρ => it ρ >>= fun ds =>
  if ds.length ≤ sizeLine then (compM (compI gm tm em (wipeE ρ vs)) ds).noerr else .bad
abbrev RTs (X : Cx) (E : XK) (e : List Expr) (m : Ev → M Bool) : Prop := PTs X e (tT X.K X.mg E m)
end F
namespace F
open PySem PySem.Spec PyProof.Rows L2
section
variable {X : Cx} {E : XK}
theorem pts_weak {e : List Expr} {t t' : TT} (h : PTs X e t) (w : ∀ σ H Q, t' σ H Q → t σ H Q) : PTs X e t' := ⟨fun pins s σ H Q I q => h.run pins s σ H Q I (w σ H Q q)⟩
theorem rts_nil : RTs X E [] tYesM := pts_weak pts_nil fun σ H Q ⟨g, S, ρ, L, ok, en, h⟩ => h g H .refl ok
theorem rts_one {c : Expr} {m : Ev → M Bool} (h : RT X E c m) : RTs X E [c] m := pts_one h
theorem drop_cons {α : Type} {xs : List α} {i : Nat} {x : α} (e : xs[i]? = some x) : xs.drop i = x :: xs.drop (i + 1) := by
  obtain ⟨h, rfl⟩ := List.getElem?_eq_some_iff.mp e
  exact List.drop_eq_getElem_cons h
theorem wipe_off {j : Nat} (τ : L2.St) : ∀ {vs : List Nat}, j ∉ vs → (wipe τ vs)[j]? = τ[j]?
  | [], _ => rfl
  | v :: vs, hj => by
    show ((wipe τ vs).set v none)[j]? = _
    rw [List.getElem?_set_ne (fun e => hj (by simp [e])), wipe_off τ (fun z => hj (List.mem_cons_of_mem _ z))]
theorem wipe_wipe {σ : L2.St} {vs : List Nat} : wipe (wipe σ vs) vs = wipe σ vs := wipe_same (wipe_length σ vs) fun j hj => wipe_off σ hj
theorem Grow.wrote {g g1 : Gw} {H H1 : Hp} {p : Addr} {o : HO} (gr : Grow g H g1 H1) (hp : H p = none) : Grow g H g1 (upd H1 p o) := by
  refine ⟨fun a h => ?_, fun a x h hn => ?_, gr.th, gr.fm, gr.fn⟩
  · by_cases e : a = p
    · subst e; exact hp
    · rw [upd_ne e] at h; exact gr.dom a h
  · rw [upd_ne (ne_of_none h hp)]; exact gr.keep a x h hn
/-- the loop of a comprehension, by data -/
theorem comp_go {K : PySem.W.Frag} {mg : Str → Option Value} {wi : TI} {gx : TG} {tt : TT} {te : TE} {vs : List Nat} {it : Ev → M (List D)} {gm : GM} {tm : Ev → M Bool} {em : Ev → M D} {ts : List Nat}
    (hts : ∀ j ∈ ts, j ∈ vs) (hi : ∀ σ H R, tI K mg E it σ H R → wi σ H R) (hg : ∀ v σ H Q, tG K ts gm v σ H Q → gx v σ H Q) (ht : ∀ σ H Q, tT K mg E0 tm σ H Q → tt σ H Q) (he : ∀ σ H Q, tE K mg E0 em σ H Q → te σ H Q) {σ : L2.St} {H : Hp} {Q : VK}
    (h : tN K mg E (nComp vs it gm tm em) σ H Q) : tLc wi gx tt te vs σ H Q := by
  obtain ⟨g, S, ρ, L, ok, en, h⟩ := h
  refine hi _ _ _ ⟨g, S, ρ, L, ok, en, wp_mono (wp_bind.mp h) (fun ds S1 h1 g1 H1 J gr1 ok1 yl => ?_) fun _ _ z => z⟩
  obtain ⟨hz, h1⟩ := wp_guard h1
  rw [wp_noerr] at h1
  intro Dl hD
  obtain ⟨ok2, gr2, hF2, hθ2⟩ := ok1.made (o := .lst []) hD
  -- the invariant
  refine ⟨fun i m H' => i + m = ds.length ∧ ∃ g' S' acc dacc, acc.length ≤ i ∧ Grow g1 H1 g' H' ∧ StOk K S' g' H' ∧ H' Dl = some (.lst acc) ∧ g'.F Dl = none ∧ Dl ∉ g'.θ ∧ RepL K g'.F g'.θ acc dacc ∧
      wp (compM (compI gm tm em (wipeE ρ vs)) (ds.drop i)) S' (fun r S2 => NP K g H Q (dacc ++ r) S2) (fun _ _ => False),
    ⟨ds.length, by omega, g1, S1, [], [], Nat.zero_le _, gr2, ok2, upd_same, hF2, hθ2, .nil, by simpa using h1⟩, ?_⟩
  rintro i m H' ⟨him, g', S', acc, dacc, hacc, gr, ok', hA, hF, hθ, rA, hw⟩
  have grT : Grow g1 H1 g' H' := gr
  by_cases hlt : i < ds.length
  · right
    have ei : ds[i]? = some ds[i] := List.getElem?_eq_getElem hlt
    obtain ⟨go, yy⟩ := yl.go g' H' i ds[i] S' grT.ext ok' ei
    rw [drop_cons ei] at hw
    have hw := wp_bind.mp hw
    refine ⟨go, fun H2 => ∃ g2 S2 acc2 dacc2, acc2.length ≤ i + 1 ∧ Grow g1 H1 g2 H2 ∧ StOk K S2 g2 H2 ∧ H2 Dl = some (.lst acc2) ∧ g2.F Dl = none ∧ Dl ∉ g2.θ ∧ RepL K g2.F g2.θ acc2 dacc2 ∧
      wp (compM (compI gm tm em (wipeE ρ vs)) (ds.drop (i + 1))) S2 (fun r S3 => NP K g H Q (dacc2 ++ r) S3) (fun _ _ => False), fun H2 hN => ⟨m - 1, by omega, by omega, hN⟩, fun x H2 hy => ?_⟩
    obtain ⟨g2, gr3, ok3, rx⟩ := yy x H2 hy
    have hA2 := gr3.keep _ _ hA hθ
    have own : OwnAt g' (fun _ => True) Dl := ⟨trivial, hF, hθ⟩
    have own2 := own.grow hA gr3
    have en2 : EnvOk K L g2 H2 (wipe σ vs) (wipeE ρ vs) := EnvOk.wipe ((en.grow gr1).grow (grT.trans gr3)) vs
    cases egm : gm ds[i] (wipeE ρ vs) with
    | none => unfold compI at hw; rw [egm] at hw; exact hw.elim
    | some ρ1 =>
    have h3 : wp (tm ρ1 >>= fun b => match b with | true => em ρ1 >>= fun y => M.ret (some y) | false => .ret none) S' (fun o S2 => wp (compM (compI gm tm em (wipeE ρ vs)) (ds.drop (i + 1)) >>= fun r => .ret (o.toList ++ r)) S2 (fun r S2 => NP K g H Q (dacc ++ r) S2) (fun _ _ => False)) (fun _ _ => False) := by
      unfold compI at hw; rw [egm] at hw; exact hw
    refine hg _ _ _ _ ⟨g2, S', wipeE ρ vs, L, ds[i], ρ1, ok3, en2, rx, egm, fun σ3 en3 l3 o3 => ?_⟩
    refine ⟨(wipe_same (vs := vs) l3 fun j hj => o3 j fun z => hj (hts j z)).trans wipe_wipe, ?_⟩
    refine ht _ _ _ ⟨g2, S', ρ1, L, ok3, en3, wp_mono (wp_bind.mp h3) (fun b S4 h4 g4 H4 gr5 ok5 => ?_) fun _ _ z => z.elim⟩
    have hA4 := gr5.keep _ _ hA2 own2.2.2
    have own4 := own2.grow hA2 gr5
    have gr345 := gr3.trans gr5
    cases b with
    | false =>
      refine iteF ?_
      refine ⟨g4, S4, acc, dacc, Nat.le_succ_of_le hacc, gr.trans gr345, ok5, hA4, own4.2.1, own4.2.2, gr345.repL rA, ?_⟩
      have h4 : wp (compM (compI gm tm em (wipeE ρ vs)) (ds.drop (i + 1)) >>= fun r => .ret ((none : Option D).toList ++ r)) S4 (fun r S2 => NP K g H Q (dacc ++ r) S2) (fun _ _ => False) := h4
      exact wp_mono (wp_bind.mp h4) (fun r S5 z => z) fun _ _ z => z
    | true =>
      refine iteT ?_
      have h4 : wp (em ρ1 >>= fun y => M.ret (some y)) S4 (fun o S2 => wp (compM (compI gm tm em (wipeE ρ vs)) (ds.drop (i + 1)) >>= fun r => .ret (o.toList ++ r)) S2 (fun r S2 => NP K g H Q (dacc ++ r) S2) (fun _ _ => False)) (fun _ _ => False) := h4
      refine he _ _ _ ⟨g4, S4, ρ1, L, ok5, en3.grow gr5, wp_mono (wp_bind.mp h4) (fun y S5 h5 g5 H5 v gr6 ok6 rv => ?_) fun _ _ z => z.elim⟩
      have hA5 := gr6.keep _ _ hA4 own4.2.2
      have own5 := own4.grow hA4 gr6
      have grAll := gr345.trans gr6
      have gr0 : Grow g1 H1 g5 H5 := gr.trans grAll
      refine ⟨acc, hA5, by omega, g5, S5, acc ++ [v], dacc ++ [y], by simp; omega, ?_, ok6.wrote hA5 own5.2.1 own5.2.2, upd_same, own5.2.1, own5.2.2, (grAll.repL rA).append (.cons rv .nil), ?_⟩
      · exact gr0.wrote hD
      · exact wp_mono (wp_bind.mp h5) (fun r S6 z => by
          have z : NP K g H Q (dacc ++ ([y] ++ r)) S6 := z
          rw [List.append_assoc]; exact z) fun _ _ z => z
  · left
    have e : i = ds.length := by omega
    subst e
    refine ⟨yl.stop g' H' _ S' grT.ext ok' (Nat.le_refl _), ?_⟩
    rw [List.drop_length] at hw
    have hw : NP K g H Q (dacc ++ []) S' := hw
    rw [List.append_nil] at hw
    exact hw g' H' Dl acc (gr1.trans grT) ok' (gr1.dom _ hD) hA hF hθ rA
end
end F
namespace F
open PySem PySem.Spec PyProof.Rows L2
/-! ## own slots -/
section
variable {K : PySem.W.Frag} {L : Addr → Prop} {S : List OS} {g g1 : Gw} {H H1 : Hp} {σ : L2.St} {ρ : Ev}
theorem own_key {ρ : Ev} {i : Nat} {s0 : Sl} {m : Nat} {z : Sl} (h : (ρ.set i s0)[m]? = some z) : (m = i ∧ z = s0) ∨ (m ≠ i ∧ ρ[m]? = some z) := by
  by_cases e : i = m
  · subst e
    have hl : i < ρ.length := by simpa using (List.getElem?_eq_some_iff.mp h).1
    rw [List.getElem?_set_self hl] at h
    exact .inl ⟨rfl, (Option.some.inj h).symm⟩
  · rw [List.getElem?_set_ne e] at h
    exact .inr ⟨Ne.symm e, h⟩
/-- a new list of one's own -/
theorem EnvOk.seto (en : EnvOk K L g H σ ρ) (gr : Grow g H g1 H1) (i : Nat) {a : Addr} {vs : List V} {ds : List D} (hn : H a = none) (ha : H1 a = some (.lst vs)) (hF : g1.F a = none) (hθ : a ∉ g1.θ) (r : RepL K g1.F g1.θ vs ds) (hL : L a) :
    EnvOk K L g1 H1 (σ.set i (some (.ref a))) (ρ.set i (.own ds)) := by
  have en1 := en.grow gr
  refine ⟨by simp [en.len], fun j sv sl h1 h2 => ?_, fun j k b x y hjk h1 h2 h3 h4 h5 h6 => ?_⟩
  · rcases own_key h2 with ⟨rfl, rfl⟩ | ⟨hj, h2⟩
    · have hl : j < σ.length := by simpa using (List.getElem?_eq_some_iff.mp h1).1
      rw [List.getElem?_set_self hl] at h1
      cases h1
      exact ⟨a, vs, rfl, ha, r, hL, hF, hθ⟩
    · rw [List.getElem?_set_ne (Ne.symm hj)] at h1
      exact en1.ok j sv sl h1 h2
  · have other : ∀ (m : Nat) (z : Sl), m ≠ i → ρ[m]? = some z → z.isOwn = true → σ[m]? = some (some (.ref a)) → False := fun m z _ hz ho hs => by
      have q := en.ok m _ z hs hz
      cases z with
      | own ds' => obtain ⟨b, vs', e, h, _⟩ := q; cases e; rw [hn] at h; cases h
      | ownd ds' => obtain ⟨b, vs', e, h, _⟩ := q; cases e; rw [hn] at h; cases h
      | _ => cases ho
    rcases own_key h3 with ⟨rfl, rfl⟩ | ⟨hj, h3'⟩
    · have hl : j < σ.length := by simpa using (List.getElem?_eq_some_iff.mp h1).1
      rw [List.getElem?_set_self hl] at h1
      cases h1
      rcases own_key h4 with ⟨rfl, _⟩ | ⟨hk, h4'⟩
      · exact hjk rfl
      · rw [List.getElem?_set_ne (Ne.symm hk)] at h2
        exact other k y hk h4' h6 h2
    · rw [List.getElem?_set_ne (Ne.symm hj)] at h1
      rcases own_key h4 with ⟨rfl, _⟩ | ⟨hk, h4'⟩
      · have hl : k < σ.length := by simpa using (List.getElem?_eq_some_iff.mp h2).1
        rw [List.getElem?_set_self hl] at h2
        cases h2
        exact other j x hj h3' h5 h1
      · rw [List.getElem?_set_ne (Ne.symm hk)] at h2
        exact en.dis j k b x y hjk h1 h2 h3' h4' h5 h6
/-- one's own list is written -/
theorem EnvOk.wroteo (en : EnvOk K L g H σ ρ) {i : Nat} {a : Addr} {ds0 ds : List D} {vs : List V} (hi : ρ[i]? = some (.own ds0)) (hs : σ[i]? = some (some (.ref a))) (r : RepL K g.F g.θ vs ds) : EnvOk K L g (upd H a (.lst vs)) σ (ρ.set i (.own ds)) := by
  have q0 := en.ok i _ _ hs hi
  obtain ⟨a', vs0, e, h0, r0, o0⟩ := q0
  cases e
  refine ⟨by simp [en.len], fun j sv sl h1 h2 => ?_, fun j k b x y hjk h1 h2 h3 h4 h5 h6 => ?_⟩
  · rcases own_key h2 with ⟨rfl, rfl⟩ | ⟨hj, h2⟩
    · rw [hs] at h1; cases h1
      exact ⟨a, vs, rfl, upd_same, r, o0⟩
    · have q := en.ok j sv sl h1 h2
      cases sl with
      | no => trivial
      | v d => exact q
      | own ds' =>
        obtain ⟨b, vs', e, h, r', o⟩ := q
        subst e
        have nb : b ≠ a := fun e => by subst e; exact en.dis j i b _ _ hj h1 hs h2 hi rfl rfl
        exact ⟨b, vs', rfl, by rw [upd_ne nb]; exact h, r', o⟩
      | ownd ds' =>
        obtain ⟨b, vs', e, h, r', o⟩ := q
        subst e
        have nb : b ≠ a := fun e => by subst e; exact en.dis j i b _ _ hj h1 hs h2 hi rfl rfl
        exact ⟨b, vs', rfl, by rw [upd_ne nb]; exact h, r', o⟩
  · have key : ∀ (m : Nat) (z : Sl), (ρ.set i (.own ds))[m]? = some z → z.isOwn = true → ∃ z', ρ[m]? = some z' ∧ z'.isOwn = true := fun m z h ho => by
      rcases own_key h with ⟨rfl, rfl⟩ | ⟨_, h⟩
      · exact ⟨_, hi, rfl⟩
      · exact ⟨z, h, ho⟩
    obtain ⟨x', q1, o1⟩ := key j x h3 h5
    obtain ⟨y', q2, o2⟩ := key k y h4 h6
    exact en.dis j k b x' y' hjk h1 h2 q1 q2 o1 o2
/-- one's own list stays from now on -/
theorem EnvOk.froze (en : EnvOk K L g H σ ρ) {i : Nat} {a : Addr} {ds : List D} {vs : List V} (hi : ρ[i]? = some (.own ds)) (hs : σ[i]? = some (some (.ref a))) (ha : H a = some (.lst vs)) (hF : g.F a = none) (r : RepL K g.F g.θ vs ds) :
    EnvOk K L ⟨upd g.F a (.lst vs), g.θ⟩ H σ (ρ.set i (.v (.lst ds))) := by
  have fm := upd_fm (o := .lst vs) hF
  refine ⟨by simp [en.len], fun j sv sl h1 h2 => ?_, fun j k b x y hjk h1 h2 h3 h4 h5 h6 => ?_⟩
  · rcases own_key h2 with ⟨rfl, rfl⟩ | ⟨hj, h2⟩
    · rw [hs] at h1; cases h1
      exact ⟨_, rfl, .lst upd_same (r.mono fm fun _ _ z => z)⟩
    · have q := en.ok j sv sl h1 h2
      have own : ∀ {b : Addr}, sv = some (.ref b) → sl.isOwn = true → OwnAt g L b → OwnAt ⟨upd g.F a (.lst vs), g.θ⟩ L b := fun {b} e1 e2 o => by
        subst e1
        have nb : b ≠ a := fun e => by subst e; exact en.dis j i b _ _ hj h1 hs h2 hi e2 rfl
        exact ⟨o.1, by show upd g.F a _ b = none; rw [upd_ne nb]; exact o.2.1, o.2.2⟩
      cases sl with
      | no => trivial
      | v d => obtain ⟨v, e, rv⟩ := q; exact ⟨v, e, rv.mono fm fun _ _ z => z⟩
      | own ds' => obtain ⟨b, vs', e, h, r', o⟩ := q; exact ⟨b, vs', e, h, r'.mono fm (fun _ _ z => z), own e rfl o⟩
      | ownd ds' => obtain ⟨b, vs', e, h, r', o⟩ := q; exact ⟨b, vs', e, h, r'.mono fm (fun _ _ z => z), own e rfl o⟩
  · have key : ∀ (m : Nat) (z : Sl), (ρ.set i (.v (.lst ds)))[m]? = some z → z.isOwn = true → ρ[m]? = some z := fun m z h ho => by
      rcases own_key h with ⟨rfl, rfl⟩ | ⟨_, h⟩
      · cases ho
      · exact h
    exact en.dis j k b x y hjk h1 h2 (key j x h3 h5) (key k y h4 h6) h5 h6
end
section
variable {X : Cx} {E : XK} {g0 : Gw} {H0 : Hp} {a b c : Expr} {ma mb : Ev → M D} {pos p py : Pos}
abbrev RS (X : Cx) (g0 : Gw) (H0 : Hp) (E : XK) (e : Stmt) (m : SM) : Prop := PS X e (tS X.K X.mg g0 H0 E m)
abbrev RSs (X : Cx) (g0 : Gw) (H0 : Hp) (E : XK) (e : List Stmt) (m : SM) : Prop := PSs X e (tS X.K X.mg g0 H0 E m)
/-- from a statement to its expression -/
theorem to_e {K : PySem.W.Frag} {mg : Str → Option Value} {te : TE} {m : Ev → M D} {k : D → Ev → M Ctl} (hte : ∀ σ H Q, tE K mg E m σ H Q → te σ H Q) {W : Ends} {σ : L2.St} {H : Hp} {f : V → Hp → Prop}
    (hk : ∀ g S ρ d v H', Grow g0 H0 g H' → StOk K S g H' → EnvOk K (fun a => H0 a = none) g H' σ ρ → Rep K g.F g.θ v d → wp (k d ρ) S (CP K g0 H0 g W) (XP K mg g0 H0 E) → f v H')
    (h : tS K mg g0 H0 E (fun ρ => m ρ >>= fun d => k d ρ) W σ H) : te σ H f := by
  obtain ⟨g, S, ρ, gr, ok, en, h⟩ := h
  exact hte _ _ _ ⟨g, S, ρ, _, ok, en, wp_mono (wp_bind.mp h) (fun d S1 h1 g1 H1 v gr1 ok1 r => hk g1 S1 ρ d v H1 (gr.trans gr1) ok1 (en.grow gr1) r (wp_mono h1 (fun _ _ z => z.ext gr1.ext) fun _ _ z => z)) fun _ _ z => z.grow gr⟩
theorem to_n {K : PySem.W.Frag} {mg : Str → Option Value} {te : TE} {m : Ev → M (List D)} {k : List D → Ev → M Ctl} (hte : ∀ σ H Q, tN K mg E m σ H Q → te σ H Q) {W : Ends} {σ : L2.St} {H : Hp} {f : V → Hp → Prop}
    (hk : ∀ g S ρ ds a vs H1 g' H', Grow g0 H0 g H1 → EnvOk K (fun a => H0 a = none) g H1 σ ρ → Grow g H1 g' H' → StOk K S g' H' → H1 a = none → H' a = some (.lst vs) → g'.F a = none → a ∉ g'.θ → RepL K g'.F g'.θ vs ds → wp (k ds ρ) S (CP K g0 H0 g' W) (XP K mg g0 H0 E) → f (.ref a) H')
    (h : tS K mg g0 H0 E (fun ρ => m ρ >>= fun d => k d ρ) W σ H) : te σ H f := by
  obtain ⟨g, S, ρ, gr, ok, en, h⟩ := h
  exact hte _ _ _ ⟨g, S, ρ, _, ok, en, wp_mono (wp_bind.mp h) (fun d S1 h1 g1 H1 a vs gr1 ok1 n1 n2 n3 n4 r => hk g S1 ρ d a vs H g1 H1 gr en gr1 ok1 n1 n2 n3 n4 r (wp_mono h1 (fun _ _ z => z.ext gr1.ext) fun _ _ z => z)) fun _ _ z => z.grow gr⟩
/-! ### blocks -/
def sNil : SM := fun ρ => .ret (.nx ρ)
def sSeq (a b : SM) : SM := fun ρ => a ρ >>= fun c => match c with
  | .nx ρ' => b ρ'
  | c => .ret c
theorem rss_nil : RSs X g0 H0 E [] sNil := pss_weak pss_nil fun W σ H ⟨g, S, ρ, gr, ok, en, h⟩ => h g H σ gr .refl ok en
theorem rss_cons {s : Stmt} {r : List Stmt} {m n : SM} (h1 : RS X g0 H0 E s m) (h2 : RSs X g0 H0 E r n) : RSs X g0 H0 E (s :: r) (sSeq m n) := by
  refine pss_weak (pss_cons h1 h2) fun W σ H ⟨g, S, ρ, gr, ok, en, h⟩ => ⟨g, S, ρ, gr, ok, en, ?_⟩
  refine wp_mono (wp_bind.mp h) (fun c S1 h1 => ?_) fun _ _ z => z
  cases c with
  | nx ρ' => exact fun g' H' σ' gr' ex ok' en' => ⟨g', S1, ρ', gr', ok', en', wp_mono h1 (fun _ _ z => z.ext ex) fun _ _ z => z⟩
  | rt d => exact h1
  | bk ρ' => exact h1
  | ct ρ' => exact h1
theorem rss_one {s : Stmt} {m : SM} (h1 : RS X g0 H0 E s m) : RSs X g0 H0 E [s] m := pss_one h1
def sPass : SM := fun ρ => .ret (.nx ρ)
def sBrk : SM := fun ρ => .ret (.bk ρ)
def sCnt : SM := fun ρ => .ret (.ct ρ)
theorem rs_pass : RS X g0 H0 E (.Pass pos) sPass := ps_weak ps_pass fun W σ H ⟨g, S, ρ, gr, ok, en, h⟩ => h g H σ gr .refl ok en
theorem rs_brk : RS X g0 H0 E (.Break pos) sBrk := ps_weak ps_break fun W σ H ⟨g, S, ρ, gr, ok, en, h⟩ => h g H σ gr .refl ok en
theorem rs_cnt : RS X g0 H0 E (.Continue pos) sCnt := ps_weak ps_continue fun W σ H ⟨g, S, ρ, gr, ok, en, h⟩ => h g H σ gr .refl ok en
def sRet (m : Ev → M D) : SM := fun ρ => m ρ >>= fun d => .ret (.rt d)
theorem rs_ret (ha : RE X E a ma) : RS X g0 H0 E (.Return (some a) pos) (sRet ma) := ps_weak (ps_ret ha) fun W σ H h => to_e (k := fun d _ => .ret (.rt d)) (fun _ _ _ z => z) (fun g S ρ d v H' gr ok en r (z : CP X.K g0 H0 g W (.rt d) S) => z g H' v gr ok r) h
def sRetN : SM := fun ρ => .ret (.rt .non)
theorem rs_retN : RS X g0 H0 E (.Return none pos) sRetN := ps_weak ps_retN fun W σ H ⟨g, S, ρ, gr, ok, en, h⟩ => h g H _ gr ok .non
def sIf (t : Ev → M Bool) (a b : SM) : SM := fun ρ => t ρ >>= fun c => match c with
  | true => a ρ
  | false => b ρ
theorem rs_if {t : Ev → M Bool} {x y : List Stmt} {m n : SM} (hc : RT X E c t) (h1 : RSs X g0 H0 E x m) (h2 : RSs X g0 H0 E y n) : RS X g0 H0 E (.If c x y pos) (sIf t m n) := by
  refine ps_weak (ps_if hc h1 h2) fun W σ H ⟨g, S, ρ, gr, ok, en, h⟩ => ⟨g, S, ρ, _, ok, en, ?_⟩
  refine wp_mono (wp_bind.mp h) (fun d S1 h1 g1 H1 gr1 ok1 => ?_) fun _ _ z => z.grow gr
  cases d with
  | true => exact iteT ⟨g1, S1, ρ, gr.trans gr1, ok1, en.grow gr1, wp_mono h1 (fun _ _ z => z.ext gr1.ext) fun _ _ z => z⟩
  | false => exact iteF ⟨g1, S1, ρ, gr.trans gr1, ok1, en.grow gr1, wp_mono h1 (fun _ _ z => z.ext gr1.ext) fun _ _ z => z⟩
def sDrop (m : Ev → M D) : SM := fun ρ => m ρ >>= fun _ => .ret (.nx ρ)
theorem rs_drop (ha : RE X E a ma) (hs : swapsWith a none pos.line X.env = pure false := by rfl) : RS X g0 H0 E (.Expr a pos) (sDrop ma) :=
  ps_weak (ps_expr ha hs) fun W σ H h => to_e (k := fun _ ρ => .ret (.nx ρ)) (fun _ _ _ z => z) (fun g S ρ d v H' gr ok en r (z : CP X.K g0 H0 g W (.nx ρ) S) => z g H' σ gr .refl ok en) h
def sSet (i : Nat) (m : Ev → M D) : SM := fun ρ => m ρ >>= fun d => .ret (.nx (ρ.set i (.v d)))
theorem rs_set (i : Nat) {x : Str} (hN : X.N.Nodup) (ha : RE X E a ma) (hi : X.N[i]? = some x := by rfl) (hx : Loc X.env.scope x := by first | exact Or.inl rfl | exact Or.inr rfl) (hs : swapsWith a (some (.Name x py)) pos.line X.env = pure false := by rfl)
    (hf : X.fn x = true ∨ X.env.scope.names.lookup x = some .local := by first | exact .inl rfl | exact .inr rfl) : RS X g0 H0 E (.Assign [.Name x py] a pos) (sSet i ma) :=
  ps_weak (ps_set hN hi hx ha hs hf) fun W σ H h => to_e (k := fun d ρ => .ret (.nx (ρ.set i (.v d)))) (fun _ _ _ z => z) (fun g S ρ d v H' gr ok en r (z : CP X.K g0 H0 g W (.nx (ρ.set i (.v d))) S) => z g H' _ gr .refl ok (en.setv i r)) h
def sOwn (i : Nat) (m : Ev → M (List D)) : SM := fun ρ => m ρ >>= fun ds => .ret (.nx (ρ.set i (.own ds)))
theorem rs_own (i : Nat) {x : Str} {m : Ev → M (List D)} (hN : X.N.Nodup) (ha : RN X E a m) (hi : X.N[i]? = some x := by rfl) (hx : Loc X.env.scope x := by first | exact Or.inl rfl | exact Or.inr rfl) (hs : swapsWith a (some (.Name x py)) pos.line X.env = pure false := by rfl)
    (hf : X.fn x = true ∨ X.env.scope.names.lookup x = some .local := by first | exact .inl rfl | exact .inr rfl) : RS X g0 H0 E (.Assign [.Name x py] a pos) (sOwn i m) :=
  ps_weak (ps_set hN hi hx ha hs hf) fun W σ H h => to_n (k := fun ds ρ => .ret (.nx (ρ.set i (.own ds)))) (fun _ _ _ z => z) (fun g S ρ ds a vs H1 g' H' gr en gr1 ok n1 n2 n3 n4 r (z : CP X.K g0 H0 g' W (.nx (ρ.set i (.own ds))) S) => z g' H' _ (gr.trans gr1) .refl ok (en.seto gr1 i n1 n2 n3 n4 r (gr.dom _ n1))) h
/-- any target -/
def sAsg (gm : GM) (m : Ev → M D) : SM := fun ρ => m ρ >>= fun d => match gm d ρ with
  | some ρ' => .ret (.nx ρ')
  | none => .bad
theorem rs_asg {tg : Expr} {ts : List Nat} {gm : GM} (ha : RE X E a ma) (hg : RG X tg ts gm) (hs : swapsWithSole [tg] a pos.line X.env = pure false := by rfl) (hw : swappedStores [tg] a X.env = pure none := by rfl)
    (h1 : (assignEach [tg] X.env).map (·.2) = [assign tg X.env] := by rfl) : RS X g0 H0 E (.Assign [tg] a pos) (sAsg gm ma) := by
  refine ps_weak (ps_asg ha hg hs hw h1) fun W σ H h => to_e (k := fun d ρ => match gm d ρ with | some ρ' => .ret (.nx ρ') | none => .bad) (fun _ _ _ z => z) (fun g S ρ d v H' gr ok en r z => ?_) h
  cases e : gm d ρ with
  | none => rw [e] at z; exact z.elim
  | some ρ' =>
    rw [e] at z
    exact ⟨g, S, ρ, _, d, ρ', ok, en, r, e, fun σ' en' _ _ => z g H' σ' gr .refl ok en'⟩
/-- a, b = x, y -/
def sPar (i j : Nat) (mas : Ev → M (List D)) : SM := fun ρ => mas ρ >>= fun ds => match ds with
  | [d, e] => .ret (.nx ((ρ.set i (.v d)).set j (.v e)))
  | _ => .bad
theorem rs_par (i j : Nat) {x y : Str} {px py pt : Pos} {kt k2 pt2} {mas : Ev → M (List D)} (hc : X.calm = true) (hN : X.N.Nodup) (ha : RA X E [a, b] mas) (hi : X.N[i]? = some x := by rfl) (hj : X.N[j]? = some y := by rfl) (hij : i ≠ j := by decide)
    (hx : X.env.scope.names.lookup x = some .local := by rfl) (hy : X.env.scope.names.lookup y = some .local := by rfl)
    (hw : swappedStores [.Tuple [.Name x px, .Name y py] kt pt] (.Tuple [a, b] k2 pt2) X.env = pure (some [x, y]) := by rfl)
    (hs : swapsWithSole [.Tuple [.Name x px, .Name y py] kt pt] (.Tuple [a, b] k2 pt2) pos.line X.env = pure false := by rfl) :
    RS X g0 H0 E (.Assign [.Tuple [.Name x px, .Name y py] kt pt] (.Tuple [a, b] k2 pt2) pos) (sPar i j mas) := by
  refine ps_weak (ps_par hc hN hi hj hij hx hy ha hw hs) fun W σ H ⟨g, S, ρ, gr, ok, en, h⟩ => ⟨g, S, ρ, _, ok, en, ?_⟩
  refine wp_mono (wp_bind.mp h) (fun ds S1 h1 g1 H1 vs gr1 ok1 r => ?_) fun _ _ z => z.grow gr
  match ds, h1 with
  | [d, e], h1 =>
    obtain ⟨v, w, rfl, rv, rw_⟩ := repL_two r
    exact ⟨v, w, rfl, h1 g1 H1 _ (gr.trans gr1) gr1.ext ok1 (((en.grow gr1).setv i rv).setv j rw_)⟩
  | [], h1 => exact h1.elim
  | [_], h1 => exact h1.elim
  | _ :: _ :: _ :: _, h1 => exact h1.elim
/-- name op= e -/
def sAug (i : Nat) (om : D → D → M D) (m : Ev → M D) : SM := fun ρ => match ρ[i]? with
  | some (.v d) => m ρ >>= fun e => om d e >>= fun f => .ret (.nx (ρ.set i (.v f)))
  | _ => .bad
theorem rs_augAdd (i : Nat) {x : Str} {px : Pos} (hN : X.N.Nodup) (ha : RE X E a ma) (hi : X.N[i]? = some x := by rfl) (hx : Loc X.env.scope x := by first | exact Or.inl rfl | exact Or.inr rfl)
    (hf : X.fn x = true ∨ X.env.scope.names.lookup x = some .local := by first | exact .inl rfl | exact .inr rfl) : RS X g0 H0 E (.AugAssign (.Name x px) .Add a pos) (sAug i (fun d e => match d, e with | .int i, .int j => .ret (.int (i + j)) | _, _ => .bad) ma) := by
  refine ps_weak (ps_aug hN hi hx ha ip_add hf) fun W σ H ⟨g, S, ρ, gr, ok, en, h⟩ => ?_
  unfold sAug at h
  split at h
  · rename_i d e
    obtain ⟨sv, h1, v, rfl, r⟩ := slot_of en e
    refine ⟨v, h1, g, S, ρ, _, ok, en, wp_mono (wp_bind.mp h) (fun d2 S1 h2 g1 H1 v2 gr1 ok1 r2 => ?_) fun _ _ z => z.grow gr⟩
    cases d with
    | int i1 =>
      cases d2 with
      | int i2 =>
        cases r; cases r2
        exact ⟨i1, i2, rfl, rfl, h2 g1 H1 _ (gr.trans gr1) gr1.ext ok1 ((en.grow gr1).setv i (.int _))⟩
      | _ => exact h2.elim
    | _ => cases d2 <;> exact h2.elim
  · exact h.elim
/-! ### one's own lists -/
def sFrz (i : Nat) (s : SM) : SM := fun ρ => s (match ρ[i]? with
  | some (.own ds) => ρ.set i (.v (.lst ds))
  | _ => ρ)
theorem rs_frz (i : Nat) {s : Stmt} {m : SM} (h : RS X g0 H0 E s m) : RS X g0 H0 E s (sFrz i m) := by
  refine ps_weak h fun W σ H ⟨g, S, ρ, gr, ok, en, h⟩ => ?_
  unfold sFrz at h
  split at h
  · rename_i ds e
    obtain ⟨sv, h1, a, vs, rfl, ha, r, hL, hF, hθ⟩ := slot_of en e
    refine ⟨⟨upd g.F a (.lst vs), g.θ⟩, S, _, ⟨gr.dom, gr.keep, gr.th, fun b o e => upd_fm hF b o (gr.fm b o e), fun b o e => ?_⟩, ok.froze ha hF hθ, en.froze e h1 ha hF r, wp_mono h (fun _ _ z => z.ext ⟨upd_fm hF, fun _ _ z => z⟩) fun _ _ z => z⟩
    by_cases hb : b = a
    · subst hb; exact .inr hL
    · have e : upd g.F a (.lst vs) b = some o := e
      rw [upd_ne hb] at e; exact gr.fn b o e
  · exact ⟨g, S, ρ, gr, ok, en, h⟩
theorem Grow.wroteo {g g1 : Gw} {H H1 : Hp} {p : Addr} {o : HO} (gr : Grow g H g1 H1) (hp : H p = none) : Grow g H g1 (upd H1 p o) := gr.wrote hp
def sApp (i : Nat) (m : Ev → M D) : SM := fun ρ => match ρ[i]? with
  | some (.own ds) => m ρ >>= fun d => if ds.length < sizeLine then .ret (.nx (ρ.set i (.own (ds ++ [d])))) else .bad
  | _ => .bad
variable {apos cpos px : Pos} {x : Str}
theorem rs_append (i : Nat) (ha : RE X E a ma) (hN : X.N[i]? = some x := by rfl) (hv : Vis X.env.scope x := by first | exact Or.inl rfl | exact Or.inr (Or.inl rfl) | exact Or.inr (Or.inr rfl)) (hd : (x == ("__debug__" : Str)) = false := by decide)
    (hcd : (x == ("__classdict__" : Str)) = false := by decide) (hbase : attributeBase (.Name x px) "append" X.env (eval (.Name x px) X.env) = eval (.Name x px) X.env := by rfl)
    (hfew : ((backTo cpos (starEach [a] X.env)).all (fun x => !x.1) && (backToKw cpos (keywordEach [] X.env)).all (fun x => x.1.isSome) && decide (([a] : List Expr).length + ([] : List Keyword).length + (if ([] : List Keyword).isEmpty then 0 else 1) < 30)) = true := by rfl)
    (hline : (apos.endLine == cpos.line) = true := by rfl) (hs : starEach [a] X.env = (false, eval a X.env) :: starEach [] X.env := by rfl) (hplain : (backTo cpos (starEach [] X.env)).any (·.1) = false := by rfl)
    (hsw : swapsWith (.Call (.Attribute (.Name x px) "append" apos) [a] [] cpos) none pos.line X.env = pure false := by rfl) : RS X g0 H0 E (.Expr (.Call (.Attribute (.Name x px) "append" apos) [a] [] cpos) pos) (sApp i ma) := by
  refine ps_weak (ps_expr (pe_bm PySem.F.plainAttrs_list PySem.F.slot_list_append PySem.F.type_list_append mt_append (pe_var hN hv hd hcd) (pa_cons ha pa_nil hs) hbase hfew hline hs hplain) hsw) fun W σ H ⟨g, S, ρ, gr, ok, en, h⟩ => ?_
  unfold sApp at h
  split at h
  · rename_i ds e
    obtain ⟨sv, h1, l, vs, rfl, hl, r, hL, hF, hθ⟩ := slot_of en e
    refine ⟨_, h1, .inl ⟨rfl, vs, SqL.of hl⟩, g, S, ρ, _, ok, en, wp_mono (wp_bind.mp h) (fun d S1 h2 g1 H1 v gr1 ok1 rv => ?_) fun _ _ z => z.grow gr⟩
    obtain ⟨hz, h2⟩ := wp_guard h2
    have hl1 := gr1.keep _ _ hl hθ
    have own1 := (show OwnAt g (fun a => H0 a = none) l from ⟨hL, hF, hθ⟩).grow hl gr1
    have en1 := en.grow gr1
    exact ⟨l, vs, v, rfl, rfl, hl1, by rw [r.length]; exact hz, h2 g1 _ σ ((gr.trans gr1).wrote hL) gr1.ext (ok1.wrote hl1 own1.2.1 own1.2.2) (en1.wroteo e h1 ((gr1.repL r).append (.cons rv .nil)))⟩
  · exact h.elim
def sExt (i : Nat) (m : Ev → M D) : SM := fun ρ => match ρ[i]? with
  | some (.own ds) => m ρ >>= fun d => match d with
    | .lst es => if ds.length + es.length ≤ sizeLine then .ret (.nx (ρ.set i (.own (ds ++ es)))) else .bad
    | _ => .bad
  | _ => .bad
theorem rs_extend (i : Nat) (ha : RE X E a ma) (hN : X.N[i]? = some x := by rfl) (hv : Vis X.env.scope x := by first | exact Or.inl rfl | exact Or.inr (Or.inl rfl) | exact Or.inr (Or.inr rfl)) (hd : (x == ("__debug__" : Str)) = false := by decide)
    (hcd : (x == ("__classdict__" : Str)) = false := by decide) (hbase : attributeBase (.Name x px) "extend" X.env (eval (.Name x px) X.env) = eval (.Name x px) X.env := by rfl)
    (hfew : ((backTo cpos (starEach [a] X.env)).all (fun x => !x.1) && (backToKw cpos (keywordEach [] X.env)).all (fun x => x.1.isSome) && decide (([a] : List Expr).length + ([] : List Keyword).length + (if ([] : List Keyword).isEmpty then 0 else 1) < 30)) = true := by rfl)
    (hline : (apos.endLine == cpos.line) = true := by rfl) (hs : starEach [a] X.env = (false, eval a X.env) :: starEach [] X.env := by rfl) (hplain : (backTo cpos (starEach [] X.env)).any (·.1) = false := by rfl)
    (hsw : swapsWith (.Call (.Attribute (.Name x px) "extend" apos) [a] [] cpos) none pos.line X.env = pure false := by rfl) : RS X g0 H0 E (.Expr (.Call (.Attribute (.Name x px) "extend" apos) [a] [] cpos) pos) (sExt i ma) := by
  refine ps_weak (ps_expr (pe_bm PySem.F.plainAttrs_list PySem.F.slot_list_extend PySem.F.type_list_extend mt_extend (pe_var hN hv hd hcd) (pa_cons ha pa_nil hs) hbase hfew hline hs hplain) hsw) fun W σ H ⟨g, S, ρ, gr, ok, en, h⟩ => ?_
  unfold sExt at h
  split at h
  · rename_i ds e
    obtain ⟨sv, h1, l, vs, rfl, hl, r, hL, hF, hθ⟩ := slot_of en e
    refine ⟨_, h1, .inl ⟨rfl, vs, SqL.of hl⟩, g, S, ρ, _, ok, en, wp_mono (wp_bind.mp h) (fun d S1 h2 g1 H1 v gr1 ok1 rv => ?_) fun _ _ z => z.grow gr⟩
    cases d with
    | lst es =>
      obtain ⟨hz, h2⟩ := wp_guard h2
      obtain ⟨b, ws, rfl, hb, rb⟩ := rep_refL rv
      have hl1 := gr1.keep _ _ hl hθ
      have own1 := (show OwnAt g (fun a => H0 a = none) l from ⟨hL, hF, hθ⟩).grow hl gr1
      have en1 := en.grow gr1
      exact ⟨l, b, vs, ws, rfl, rfl, hl1, ok1.sub _ _ hb, by rw [r.length, rb.length]; exact hz, h2 g1 _ σ ((gr.trans gr1).wrote hL) gr1.ext (ok1.wrote hl1 own1.2.1 own1.2.2) (en1.wroteo e h1 ((gr1.repL r).append rb))⟩
    | _ => exact h2.elim
  · exact h.elim
/-! ### for -/
def forM (gm : GM) (body : SM) : List D → SM
  | [], ρ => .ret (.nx ρ)
  | d :: ds, ρ => match gm d ρ with
    | some ρ' => body ρ' >>= fun c => match c with
      | .nx ρ2 => forM gm body ds ρ2
      | .ct ρ2 => forM gm body ds ρ2
      | .bk ρ2 => .ret (.nx ρ2)
      | .rt d => .ret (.rt d)
    | none => .bad
def sFor (it : Ev → M (List D)) (gm : GM) (body : SM) : SM := fun ρ => it ρ >>= fun ds => forM gm body ds ρ
theorem rs_for {tg iter : Expr} {body : List Stmt} {it : Ev → M (List D)} {gm : GM} {ts : List Nat} {bm : SM} (hp : PassesOwn (model X.prog X.w) X.A X.env X.xe) (hc : X.calm = true) (hi : RI X E tg iter it) (hg : RG X tg ts gm) (hb : RSs X g0 H0 E body bm)
    (hs : ∀ x, foldedSetIterable iter X.env x = pure x := by intro _; rfl) : RS X g0 H0 E (.For tg iter body [] pos) (sFor it gm bm) := by
  refine ps_weak (ps_for hp hc hi hg hb hs) fun W σ H ⟨g, S, ρ, gr, ok, en, h⟩ => ⟨g, S, ρ, _, ok, en, wp_mono (wp_bind.mp h) (fun ds S1 h1 g1 H1 J gr1 ok1 yl => ?_) fun _ _ z => z.grow gr⟩
  refine ⟨fun i m σ' H' => i + m = ds.length ∧ ∃ g' S' ρ', Grow g0 H0 g' H' ∧ Ext g1 g' ∧ StOk X.K S' g' H' ∧ EnvOk X.K (fun a => H0 a = none) g' H' σ' ρ' ∧ wp (forM gm bm (ds.drop i) ρ') S' (CP X.K g0 H0 g' W) (XP X.K X.mg g0 H0 E),
    ⟨ds.length, by omega, g1, S1, ρ, gr.trans gr1, .refl, ok1, en.grow gr1, by simpa using wp_mono h1 (fun _ _ z => z.ext gr1.ext) fun _ _ z => z⟩, ?_⟩
  rintro i m σ' H' ⟨him, g', S', ρ', gr0, ex, ok', en', hw⟩
  by_cases hlt : i < ds.length
  · right
    have ei : ds[i]? = some ds[i] := List.getElem?_eq_getElem hlt
    obtain ⟨go, yy⟩ := yl.go g' H' i ds[i] S' ex ok' ei
    rw [drop_cons ei] at hw
    refine ⟨go, fun σ2 H2 => ∃ g2 S2 ρ2, Grow g0 H0 g2 H2 ∧ Ext g1 g2 ∧ StOk X.K S2 g2 H2 ∧ EnvOk X.K (fun a => H0 a = none) g2 H2 σ2 ρ2 ∧ wp (forM gm bm (ds.drop (i + 1)) ρ2) S2 (CP X.K g0 H0 g2 W) (XP X.K X.mg g0 H0 E), fun σ2 H2 hN => ⟨m - 1, by omega, by omega, hN⟩, fun x H2 hy => ?_⟩
    obtain ⟨g2, gr3, ok3, rx⟩ := yy x H2 hy
    have hw : wp (match gm ds[i] ρ' with
      | some ρ' => bm ρ' >>= fun c => (match c with
        | .nx ρ2 => forM gm bm (ds.drop (i + 1)) ρ2
        | .ct ρ2 => forM gm bm (ds.drop (i + 1)) ρ2
        | .bk ρ2 => M.ret (.nx ρ2)
        | .rt d => .ret (.rt d))
      | none => .bad) S' (CP X.K g0 H0 g' W) (XP X.K X.mg g0 H0 E) := hw
    cases egm : gm ds[i] ρ' with
    | none => rw [egm] at hw; exact hw.elim
    | some ρ1 =>
      rw [egm] at hw
      refine ⟨g2, S', ρ', _, ds[i], ρ1, ok3, en'.grow gr3, rx, egm, fun σ3 en3 _ _ => ⟨g2, S', ρ1, gr0.trans gr3, ok3, en3, wp_mono (wp_bind.mp hw) (fun c S4 h4 => ?_) fun _ _ z => z⟩⟩
      cases c with
      | nx ρ2 => exact fun g4 H4 σ4 gr4 ex4 ok4 en4 => ⟨g4, S4, ρ2, gr4, (ex.trans gr3.ext).trans ex4, ok4, en4, wp_mono h4 (fun _ _ z => z.ext (gr3.ext.trans ex4)) fun _ _ z => z⟩
      | ct ρ2 => exact fun g4 H4 σ4 gr4 ex4 ok4 en4 => ⟨g4, S4, ρ2, gr4, (ex.trans gr3.ext).trans ex4, ok4, en4, wp_mono h4 (fun _ _ z => z.ext (gr3.ext.trans ex4)) fun _ _ z => z⟩
      | bk ρ2 => exact fun g4 H4 σ4 gr4 ex4 ok4 en4 => h4 g4 H4 σ4 gr4 (gr3.ext.trans ex4) ok4 en4
      | rt d => exact h4
  · left
    have e : i = ds.length := by omega
    subst e
    refine ⟨yl.stop g' H' _ S' ex ok' (Nat.le_refl _), ?_⟩
    rw [List.drop_length] at hw
    exact hw g' H' σ' gr0 .refl ok' en'
end
end F
namespace F
open PySem PySem.Spec PyProof.Rows L2
/-! ## defs: what a def keeps where no guard stands around -/
structure FnG (P : Program) (w : World) (K : PySem.W.Frag) (mg : Str → Option Value) (base : Heap) (k : Nat) (f : Addr) (fd : FuncData) (ps : List Str) (sp : Sp) : Prop where
  len : ∀ vs H Q E, sp vs H Q E → vs.length = ps.length
  go : ∀ (A : Around) (outer : List PySem.Env) (s : Shared) (H : Hp) (args : Args) (us : List Value) (vs : List V) (Q : VK) (E : XK), Room k A → A.guards = some [] → Env0 P w K mg base A outer s H → BindsTo s fd args (ps.zip us) → Vals vs us → sp vs H Q E →
    codeAny (model P w) A (.call (.ref f) args) (CR (L2.CX P w) outer P w H s Q E) s
theorem FnG.mono {P : Program} {w : World} {K : PySem.W.Frag} {mg : Str → Option Value} {base : Heap} {j k : Nat} {f : Addr} {fd : FuncData} {ps : List Str} {sp : Sp} (F : FnG P w K mg base j f fd ps sp) (h : j ≤ k) : FnG P w K mg base k f fd ps sp :=
  ⟨F.len, fun A outer s H args us vs Q E hr => F.go A outer s H args us vs Q E (hr.mono h)⟩
theorem FnG.of {P : Program} {w : World} {K : PySem.W.Frag} {mg : Str → Option Value} {base : Heap} {k : Nat} {f : Addr} {fd : FuncData} {ps : List Str} {sp : Sp} (F : FnOk P w K mg base (L2.CX P w) k f fd ps sp) : FnG P w K mg base k f fd ps sp :=
  ⟨F.len, fun A outer s H args us vs Q E hr _ => F.run A outer s H args us vs Q E hr⟩
/-- the promise of a def by its function of data -/
def spM (K : PySem.W.Frag) (mg : Str → Option Value) (n : Nat) (fM : List D → M D) : Sp := fun vs H Q E => vs.length = n ∧ rDL K mg E fM vs H Q
def startE (n : Nat) (ds : List D) : Ev := ds.map Sl.v ++ List.replicate (n - ds.length) Sl.no
/-- a body run at its arguments -/
def runB (n : Nat) (bm : SM) (ds : List D) : M D := bm (startE n ds) >>= fun c => match c with
  | .rt d => .ret d
  | .nx _ => .ret .non
  | _ => .bad
theorem start_ok {K : PySem.W.Frag} {L : Addr → Prop} {g : Gw} {H : Hp} {N : List Str} {vs : List V} {ds : List D} (r : RepL K g.F g.θ vs ds) : EnvOk K L g H (start N vs) (startE N.length ds) := by
  have hl := r.length
  unfold L2.start startE
  refine ⟨by simp [hl], fun i sv sl h1 h2 => ?_, fun i j a x y _ _ _ h3 _ h5 _ => ?_⟩
  · by_cases hi : i < ds.length
    · rw [List.getElem?_append_left (by simpa [hl] using hi), List.getElem?_map] at h1
      rw [List.getElem?_append_left (by simpa using hi), List.getElem?_map, List.getElem?_eq_getElem hi] at h2
      obtain ⟨v, e, rv⟩ := r.get (List.getElem?_eq_getElem hi)
      rw [e] at h1
      cases h1; cases h2
      exact ⟨v, rfl, rv⟩
    · rw [List.getElem?_append_right (by simpa using hi), List.getElem?_replicate] at h2
      split at h2
      · cases h2; trivial
      · cases h2
  · by_cases hi : i < ds.length
    · rw [List.getElem?_append_left (by simpa using hi), List.getElem?_map, List.getElem?_eq_getElem hi] at h3
      cases h3; cases h5
    · rw [List.getElem?_append_right (by simpa using hi), List.getElem?_replicate] at h3
      split at h3
      · cases h3; cases h5
      · cases h3
/-- a def's context -/
structure Def0 (X : Cx) (E : XK) (k : Nat) : Prop where
  calm : X.calm = true
  tk : Takes X (fun c d _ H => E c d H)
  room : Room k X.A
  po : PassesOwn (model X.prog X.w) X.A X.env X.xe
theorem Def0.units {X : Cx} {E : XK} {k : Nat} (d : Def0 X E k) : X.A.units + 65 < cLine := by have := d.room.un; omega
section
variable {P : Program} {w : World} {K : PySem.W.Frag} {mg : Str → Option Value} {base : Heap} {x qual : Str} {params : Arguments} {body : List Stmt} {scope : Scope} {dvs : List V} {kws : List (Str × V)} {f : Addr} {fd : FuncData} {N ps : List Str} {k n : Nat} {bm : SM}
/-- the reading of a whole body -/
theorem body_go {E : XK} {Q : VK} {H : Hp} {vs : List V} (h : rDL K mg E (runB N.length bm) vs H Q) : ∃ g, tS K mg g H E bm { nx := fun _ H' => Q .non H', rt := Q } (start N vs) H := by
  obtain ⟨g, S, ds, ok, r, h⟩ := h
  refine ⟨g, g, S, startE N.length ds, .refl, ok, start_ok r, wp_mono (wp_bind.mp h) (fun c S1 h1 => ?_) fun _ _ z => z⟩
  cases c with
  | nx ρ => exact fun g' H' σ' gr _ ok' _ => h1 g' H' _ gr ok' .non
  | rt d => exact fun g' H' v gr ok' r => h1 g' H' v gr ok' r
  | bk ρ => exact h1.elim
  | ct ρ => exact h1.elim
/-- THE RULE: a def by its body, without guards -/
theorem fnG (F : FunD K x qual params body scope dvs kws f fd) (S : FnScope N ps scope)
    (hb : ∀ (X : Cx) (g0 : Gw) (H0 : Hp) (E : XK), X.prog = P → X.w = w → X.K = K → X.mg = mg → X.base = base → X.N = N → X.env.scope = scope → X.env.qual = qual ++ ".<locals>." → (∀ y, X.fn y = true) → Def0 X E k → X.A.guards = some [] → RSs X g0 H0 E body bm) : FnG P w K mg base (k + 1) f fd ps (spM K mg ps.length (runB N.length bm)) := by
  obtain ⟨oc, od, dV, kV, doc, pm, an, cdv, ct, osl, rfl, lk, hcd, _, _⟩ := F.ex
  refine ⟨fun vs H Q E h => h.1, fun A outer s H args us vs Q E hr hgd e0 hbd r hsp => ?_⟩
  have hl := hsp.1
  have keep : ∀ b o, base.get? b = some o → s.heap.get? b = some o := fun b o e => (e0.bs b o e).1
  have hkind : ∀ y ∈ ps.zip us, scope.names.lookup y.1 = some .local ∨ (scope.names.lookup y.1 = some .cell ∧ ((cellsFrom (s.heap.objs.size + 1) scope.names []).lookup y.1).isSome = true) := by
    rintro ⟨y, v⟩ hy
    rcases S.par y (List.of_mem_zip hy).1 with q | q
    · exact .inl q
    · exact .inr ⟨q, PySem.W.cellsFrom_some _ _ _ (.inl q)⟩
  refine codeAny_call_function hr.depth (e0.mod.kin.keeps keep _ _ lk) rfl S.co S.gen rfl (PySem.W.codeRec_of (e0.mod.kin.keeps keep) hcd) (hbd _ _ _ _ (wpAny_newFunctionEnv_cells S.kind hkind fun env he s1 x => ?_))
  subst he
  refine ⟨(e0.mod.nolimit.keeps keep).keeps x.toInCall.keep, codeAny_func ?_⟩
  have I : Inv (cxOf (L2.CX P w) P w K mg base N qual scope f cdv A outer s H E) [] (start N vs) H s1 := inv_start S hr.hd e0 hl r x
  obtain ⟨g, hq⟩ := body_go hsp.2
  have d0 : Def0 (cxOf (L2.CX P w) P w K mg base N qual scope f cdv A outer s H E) E k := ⟨rfl, takes_of rfl rfl rfl rfl, hr.deeper _, passes_of rfl⟩
  have ht := hb (cxOf (L2.CX P w) P w K mg base N qual scope f cdv A outer s H E) g H E rfl rfl rfl rfl rfl rfl rfl rfl (fun _ => rfl) d0 hgd
  refine wpAny_mono (ht.run [] s1 (start N vs) H _ I hq) (fun fl s' hs => ?_) fun e s' hs => hs
  cases fl with
  | ret u => obtain ⟨v, σ', H', J, rv, q⟩ := hs; exact ⟨v, H', J.os, J.bare, J.base, J.hok, rv, q⟩
  | next => obtain ⟨σ', H', J, q⟩ := hs; exact ⟨V.non, H', J.os, J.bare, J.base, J.hok, rfl, q⟩
  | brk => obtain ⟨_, _, _, q⟩ := hs; exact q.elim
  | cont => obtain ⟨_, _, _, q⟩ := hs; exact q.elim
/-- the same whatever stands around -/
theorem fnO (F : FunD K x qual params body scope dvs kws f fd) (S : FnScope N ps scope)
    (hb : ∀ (X : Cx) (g0 : Gw) (H0 : Hp) (E : XK), X.prog = P → X.w = w → X.K = K → X.mg = mg → X.base = base → X.N = N → X.env.scope = scope → X.env.qual = qual ++ ".<locals>." → (∀ y, X.fn y = true) → Def0 X E k → RSs X g0 H0 E body bm) : FnOk P w K mg base (L2.CX P w) (k + 1) f fd ps (spM K mg ps.length (runB N.length bm)) :=
  FunD.ok F S (fun vs H Q E h => h.1) fun cdv A outer s H vs Q E hr hsp => by
    obtain ⟨g, hq⟩ := body_go hsp.2
    exact ⟨_, hb (cxOf (L2.CX P w) P w K mg base N qual scope f cdv A outer s H E) g H E rfl rfl rfl rfl rfl rfl rfl rfl (fun _ => rfl) ⟨rfl, takes_of rfl rfl rfl rfl, hr, passes_of rfl⟩, hq⟩
end
/-! ## calls -/
/-- a def of the module that may be called: level k, n parameters -/
structure Fnc (P : Program) (w : World) (K : PySem.W.Frag) (mg : Str → Option Value) (base : Heap) (k : Nat) (x : Str) (n : Nat) (fM : List D → M D) : Prop where
  ex : ∃ (f : Addr) (fd : FuncData) (ps : List Str), FnG P w K mg base k f fd ps (spM K mg n fM) ∧ mg x = some (.ref f) ∧ PySem.W.keepIn K (.ref f) = true ∧ Binds K fd ps [] ∧ ps.length = n
/-- .. whatever stands around -/
structure Fno (P : Program) (w : World) (K : PySem.W.Frag) (mg : Str → Option Value) (base : Heap) (k : Nat) (x : Str) (n : Nat) (fM : List D → M D) : Prop where
  ex : ∃ (f : Addr) (fd : FuncData) (ps : List Str), FnOk P w K mg base (L2.CX P w) k f fd ps (spM K mg n fM) ∧ mg x = some (.ref f) ∧ PySem.W.keepIn K (.ref f) = true ∧ Binds K fd ps [] ∧ ps.length = n
theorem Fno.c {P : Program} {w : World} {K : PySem.W.Frag} {mg : Str → Option Value} {base : Heap} {k : Nat} {x : Str} {n : Nat} {fM : List D → M D} (h : Fno P w K mg base k x n fM) : Fnc P w K mg base k x n fM := by
  obtain ⟨f, fd, ps, F, r⟩ := h.ex
  exact ⟨f, fd, ps, .of F, r⟩
/-- what a call asks of the context -/
structure Cal (X : Cx) (E : XK) (k : Nat) : Prop where
  ps : Passes (L2.CX X.prog X.w) X E
  room : Room k X.A
theorem Def0.cal {X : Cx} {E : XK} {k : Nat} (d : Def0 X E k) : Cal X E k := ⟨passes_call d.tk fun _ _ _ _ h => h, d.room⟩
theorem cal_blk {X : Cx} {E : XK} {k : Nat} (d : Def0 X E k) (s : Shared) (H : Hp) (scope : Scope) (cenv : PySem.Env) (fp : List Addr) : Cal (X.blk s H scope cenv fp) E0 k :=
  ⟨fun _ _ _ _ _ _ _ ⟨_, _, _, _, _, _, _, _, _, _, _, _, e⟩ => e.elim, d.room⟩
section
variable {X : Cx} {E : XK} {j k n : Nat} {x : Str} {fM : List D → M D} {e : Expr} {es : List Expr} {p pos : Pos} {mas : Ev → M (List D)}
def eF (n : Nat) (fM : List D → M D) (mas : Ev → M (List D)) : Ev → M D := fun ρ => mas ρ >>= fun ds => if ds.length = n then fM ds else .bad
theorem callG_go {f : Addr} {fd : FuncData} {ps : List Str} (F : FnG X.prog X.w X.K X.mg X.base k f fd ps (spM X.K X.mg n fM)) (c : Cal X E k) (gd : X.A.guards = some []) (hb : Binds X.K fd ps []) : CallR X (.ref f) (spM X.K X.mg n fM · · · E) := by
  intro pins s σ H vs us Q I r h
  have hl : us.length = ps.length := by rw [← r.length]; exact F.len _ _ _ _ h
  have b := hb s us I.kIn (by rw [List.append_nil]; exact hl)
  rw [List.append_nil] at b
  refine wpAny_call (codeAny_mono (F.go X.A X.stack s H ⟨us, []⟩ us vs Q E c.room gd I.env0 b r h) fun r s' hq => ?_)
  match r, hq with
  | .error e, hq => exact c.ps pins σ H s e s' I hq
  | .ok (.ret u), hq => exact I.after hq
  | .ok .next, hq => exact hq.elim
  | .ok .brk, hq => exact hq.elim
  | .ok .cont, hq => exact hq.elim
theorem re_f0 {f : Addr} (hc : CallR X (.ref f) (spM X.K X.mg n fM · · · E)) (hg : Gl X x) (hm : X.mg x = some (.ref f)) (hk : PySem.W.keepIn X.K (.ref f) = true) (ha : RA X E (e :: es) mas) (hdb : (x == ("__debug__" : Str)) = false := by decide)
    (he : starEach (e :: es) X.env = (false, eval e X.env) :: starEach es X.env := by rfl) (hpl : (backTo pos (starEach es X.env)).any (·.1) = false := by rfl) : RE X E (.Call (.Name x p) (e :: es) [] pos) (eF n fM mas) := by
  refine ⟨fun pins s σ H Q I ⟨g, S, ρ, L, ok, en, h⟩ => ?_⟩
  refine wpAny_Call_Name_kw (ld_glob I hg hm (PySem.W.callWith_K (h₀ := X.base) I.ok.mod.kin hk (thn (ha.run pos pins s σ H (fun vs H1 => spM X.K X.mg n fM vs H1 Q E) I ⟨g, S, ρ, L, ok, en, wp_mono (wp_bind.mp h) (fun ds S1 h1 g1 H1 vs gr ok1 r => ?_) fun _ _ z => z⟩) fun us s1 ⟨vs, H1, I1, r, q⟩ => ⟨I1.kIn, hc pins s1 σ H1 vs us Q I1 r q⟩) he hpl) hdb)
  obtain ⟨hz, h1⟩ := wp_guard h1
  exact ⟨r.length.trans hz, g1, S1, ds, ok1, r, wp_mono h1 (fun _ _ z => z.grow gr) fun _ _ z => z.grow gr⟩
/-- f(e, ..) -/
theorem re_f (fn : Fnc X.prog X.w X.K X.mg X.base j x n fM) (c : Cal X E k) (gd : X.A.guards = some []) (hjk : j ≤ k) (hg : Gl X x) (ha : RA X E (e :: es) mas) (hdb : (x == ("__debug__" : Str)) = false := by decide)
    (he : starEach (e :: es) X.env = (false, eval e X.env) :: starEach es X.env := by rfl) (hpl : (backTo pos (starEach es X.env)).any (·.1) = false := by rfl) : RE X E (.Call (.Name x p) (e :: es) [] pos) (eF n fM mas) := by
  obtain ⟨f, fd, ps, G, hm, hk, hb, hn⟩ := fn.ex
  exact re_f0 (callG_go (G.mono hjk) c gd hb) hg hm hk ha hdb he hpl
theorem re_fo (fn : Fno X.prog X.w X.K X.mg X.base j x n fM) (c : Cal X E k) (hjk : j ≤ k) (hg : Gl X x) (ha : RA X E (e :: es) mas) (hdb : (x == ("__debug__" : Str)) = false := by decide)
    (he : starEach (e :: es) X.env = (false, eval e X.env) :: starEach es X.env := by rfl) (hpl : (backTo pos (starEach es X.env)).any (·.1) = false := by rfl) : RE X E (.Call (.Name x p) (e :: es) [] pos) (eF n fM mas) := by
  obtain ⟨f, fd, ps, G, hm, hk, hb, hn⟩ := fn.ex
  refine re_f0 (fun pins s σ H vs us Q I r h => run_fn (ds := []) (dvs := []) (G.mono hjk) c.room hb .nil c.ps I r (by rw [List.append_nil]; exact h)) hg hm hk ha hdb he hpl
end
end F
namespace L2
open PySem PySem.Spec PyProof.Rows
section
variable {P : Program} {w : World} {A : Around} {E : Value → Shared → Prop} {s : Shared}
def eS (w : World) : Obj := { cls := .type "set", dict := none, data := .set #[] 0 (.fresh 0 0 (!w.params.followText "set-order")) }
theorem eS_def (w : World) : eS w = { cls := .type "set", dict := none, data := .set #[] 0 (.fresh 0 0 (!w.params.followText "set-order")) } := rfl
/-- set(a list of ints), led -/
theorem set_lstI {l : Addr} {xs : Array Value} (ns : List Int) {Q : Value → Shared → Prop} (hn : A.handled = none) (hL : s.heap.IsList l xs) (hI : IntsAre xs.toList ns) (hb : ns.length + 1 < scanBound)
    (hQ : ∀ (g : Heap) (k c : Nat), SetR w g s.heap.objs.size (fun j => decide (j ∈ ns)) c → c ≤ ns.length → (∀ b o, s.heap.get? b = some o → g.get? b = some o) → Q (.ref s.heap.objs.size) { s with heap := g, toks := k }) :
    wpAny (model P w) A (call (.type "set") [.ref l]) Q E s := by
  have hz : xs.size = ns.length := by have z := IntsAre.length hI; rwa [Array.length_toList] at z
  obtain ⟨c0, tl0, mro0⟩ := PySem.F.called_set.mro
  have m0 := PySem.F.called_set.made
  have m1 := PySem.F.called_set.sub
  refine wpAny_call (codeAny_of_tree ?_)
  show wpAny _ _ (callAny (.type "set") _) _ _ _
  refine wpAny_pure ⟨Code.quiet_builtin _ (by decide +kernel), codeAny_builtin PySem.F.entry_type_call ?_⟩
  rw [Around.under_plain (weight_type_call_type "set" [.ref l] []) rfl]
  have m2 := PySem.F.called_set.notType
  have m3 := PySem.F.called_set.canCreate
  have m4 := PySem.F.typeCall_set_1 (.ref l)
  repeat (any_goals (first | assumption | wp_step))
  refine codeAny_mono (code_set_led1 (.ref l) (E := E) (Q₁ := fun x s1 => x = .ref s.heap.objs.size ∧ s1 = { s with heap := s.heap.push (eS w) }) ⟨rfl, rfl⟩) fun r s1 hr => ?_
  cases r with
  | error e => exact hr
  | ok fl =>
    cases fl with
    | ret x =>
      obtain ⟨rfl, rfl⟩ := hr
      have gS : (s.heap.push (eS w)).get? s.heap.objs.size = some (eS w) := Heap.get?_push_size _ rfl
      have tS : Shared.TypeIs { s with heap := s.heap.push (eS w) } (.ref s.heap.objs.size) "set" := ⟨_, gS, rfl⟩
      have i1 := PySem.F.called_set.init.lookup
      have i2 := PySem.F.called_set.init.bind (.ref s.heap.objs.size)
      repeat (any_goals (first | assumption | wp_step))
      refine codeAny_mono (codeAny_call_builtin (R := wants (fun r s2 => r = .none ∧ ∃ g k c, s2 = { s with heap := g, toks := k } ∧ SetR w g s.heap.objs.size (fun j => decide (j ∈ ns)) c ∧ c ≤ ns.length ∧ (∀ b o, s.heap.get? b = some o → g.get? b = some o)) E)
        PySem.F.called_set.init.plain PySem.F.entry_set_init (check_set_init_1 tS ?_)) fun r2 s2 hr2 => ?_
      · obtain ⟨oL, gL, cL, nL, dL⟩ := hL
        obtain ⟨oc, od, oD, oS⟩ := oL
        simp only at cL dL
        subst cL; subst dL
        have gL' : (s.heap.push (eS w)).get? l = some { cls := .type "list", dict := od, data := .seq xs nL, slots := oS } := Heap.get?_push_of_some _ gL
        have b1 := PySem.F.sub_list_set
        have b2 := PySem.F.sub_list_frozenset
        have b3 : (Value.type "list" == Value.type "dict") = false := by decide
        have lL : (s.heap.push (eS w)).IsList l xs := ⟨_, gL', rfl, nL, rfl⟩
        unfold Builtin.«set.__init__» noKeywords Builtin.Frozenset.updateFrom
        generalize hPI : pyIter = PI
        wp_walk
        subst hPI
        refine wpAny_pyIter_list lL ?_
        refine wpAny_bind (wpAny_runValue ?_)
        have ltL : l < s.heap.objs.size := Heap.lt_size gL
        have h3 : A.in1.in1.in1.handled = none := by simp [hn]
        have nI : l ≠ (s.heap.push (eS w)).objs.size := by rw [Heap.size_push]; exact Nat.ne_of_lt (Nat.lt_succ_of_lt ltL)
        have nS : s.heap.objs.size ∉ [(s.heap.push (eS w)).objs.size, l] := by
          rw [Heap.size_push]
          simp only [List.mem_cons, List.mem_singleton, List.not_mem_nil, or_false, not_or]
          exact ⟨Nat.ne_of_lt (Nat.lt_succ_self _), Nat.ne_of_gt ltL⟩
        have hv : ∀ (i : Nat) (v : Value), xs[i]? = some v → ∃ k t, ns[i]? = some k ∧ v = .int k t := fun i v hv => by
          have hi : i < ns.length := by rw [← hz]; exact (Array.getElem?_eq_some_iff.mp hv).1
          obtain ⟨t, e⟩ := IntsAre.int_at hI i v (by rw [Array.getElem?_toList]; exact hv)
          exact ⟨ns[i], t, List.getElem?_eq_getElem hi, by rw [e, List.getD_eq_getElem?_getD, List.getElem?_eq_getElem hi] <;> rfl⟩
        refine set_update_ints ((Walks.list h3 _ l nI xs).toS) s.heap.objs.size nS ns hz hb hv (xs.size - 0) 0 _ (by omega) (Nat.zero_le _) ⟨⟨_, Heap.get?_push_size _ rfl, rfl, rfl⟩, (lL.push _)⟩ ?g1 ?g2
        case g1 => exact ⟨0, Nat.le_refl 0, setR_new_at (Heap.get?_push_of_some _ gS)⟩
        case g2 =>
          intro s3 c3 mv hc3 hS3
          obtain ⟨g3, gen3, d3, t3, o3⟩ := s3
          have eg : gen3 = s.gens := mv.gens
          have ed : d3 = s.drawn := mv.drawn
          have eo : o3 = s.os := mv.os
          subst eg; subst ed; subst eo
          show wpAny _ _ _ _ _ _
          refine wpAny_pure ?_
          show wpAny _ _ (ret Value.none) _ _ _
          rw [hz] at hc3
          refine wpAny_pure ⟨rfl, g3, t3, c3, rfl, hS3, hc3, fun b o e => ?_⟩
          have lt0 : b < s.heap.objs.size := Heap.lt_size e
          have ne1 : b ≠ s.heap.objs.size := Nat.ne_of_lt lt0
          have ne2 : b ≠ (s.heap.push (eS w)).objs.size := by rw [Heap.size_push]; exact Nat.ne_of_lt (Nat.lt_succ_of_lt lt0)
          exact mv.heap b o (by simp only [List.mem_cons, List.mem_singleton, List.not_mem_nil, or_false, not_or]; exact ⟨ne1, ne2⟩) (Heap.get?_push_of_some _ (Heap.get?_push_of_some _ e))
      · cases r2 with
        | error e => exact hr2
        | ok fl2 =>
          cases fl2 with
          | ret r =>
            obtain ⟨rfl, g, k, c, rfl, hS', hc', hk'⟩ := hr2
            repeat (any_goals (first | assumption | wp_step))
            exact hQ _ _ _ hS' hc' hk'
          | _ => exact hr2.elim
    | _ => exact hr.elim
/-- set(xs) of ints: led -/
def rSetLI (K : PySem.W.Frag) (w : World) : List V → Hp → VK → Prop := fun xs H Q => ∃ (p : Addr) (ns : List Int), xs = [.ref p] ∧ (SqL K H p (ns.map V.int) ∨ SqT K H p (ns.map V.int)) ∧ ns.length + 1 < scanBound ∧
  ∀ q c, c ≤ ns.length → H q = none → Q (.ref q) (upd H q (SetO w q (fun j => decide (j ∈ ns)) c))
variable {X : Cx}
theorem cr_setLI (hc : X.calm = true) : CallR X (.type "set") (rSetLI X.K X.w) := by
  intro pins s σ H xs us Q I r h
  obtain ⟨p, ns, rfl, hp, hb, q⟩ := h
  obtain ⟨u, rfl, r1⟩ := vals1 r
  cases r1
  rcases hp with hp | hp
  · obtain ⟨its, r, pl, hz⟩ := I.list hp
    refine set_lstI ns (I.ok.hd hc) pl.isList (ints_of_vals r) hb fun g k c R hcn hk => ?_
    exact ⟨.ref _, upd H s.heap.objs.size (SetO X.w s.heap.objs.size (fun j => decide (j ∈ ns)) c), I.laid hk (Nat.le_refl _) (setO_new R), rfl, q _ c hcn (I.hok.fresh (Nat.le_refl _))⟩
  · obtain ⟨its, r, pt, hz⟩ := I.tuple hp
    refine call_set_tupI ns (I.ok.hd hc) (show s.heap.IsTuple p its.toArray from pt) (ints_of_vals r) hb fun g k c R hcn hk => ?_
    exact ⟨.ref _, upd H s.heap.objs.size (SetO X.w s.heap.objs.size (fun j => decide (j ∈ ns)) c), I.laid hk (Nat.le_refl _) (setO_new R), rfl, q _ c hcn (I.hok.fresh (Nat.le_refl _))⟩
end
end L2
namespace HT
open PySem PySem.Spec PyProof.Rows L2
section
variable {prog : Program} {w : World} {A : Around} {E : Value → Shared → Prop} {s : Shared}
theorem adj_rev (n : Nat) : Builtin.Slice.sliceAdjust none none (-1) (n : Int) = ((n : Int) - 1, -1) := by
  unfold Builtin.Slice.sliceAdjust
  simp
theorem plc_rev (n : Nat) : Builtin.Slice.slicePlaces ((n : Int) - 1) (-1) (-1) = n := by
  unfold Builtin.Slice.slicePlaces
  simp
  try omega
theorem sl_rev {sl : Addr} {vs : Value} {n : Nat} {Q : Int × Int × Nat → Shared → Prop} (hs : s.heap.IsSliceOf sl .none .none vs) (ps : IsPart vs (some (-1)))
    (h : Q ((n : Int) - 1, -1, n) s) : wpAny (model prog w) A (Builtin.Slice.sliceApplied (.ref sl) (pure (n : Int))) Q E s := by
  obtain ⟨os, ho, hc, hd⟩ := id hs
  unfold Builtin.Slice.sliceApplied Builtin.Slice.sliceFields
  refine wpAny_bind (wpAny_bind (wpAny_field ho hd (x := .none) rfl (wpAny_bind (wpAny_field ho hd (x := .none) rfl (wpAny_bind (wpAny_field ho hd (x := vs) rfl (wpAny_pure ?_)))))))
  refine wpAny_bind (slicePart_ ps ?_)
  show wpAny _ _ (if ((-1 : Int) == 0) = true then _ else _) _ _ s
  rw [if_neg (by decide)]
  refine wpAny_bind (slicePart_ .none (wpAny_bind (slicePart_ .none (wpAny_bind (wpAny_pure ?_)))))
  show wpAny _ _ (match Builtin.Slice.sliceAdjust none none (-1) (n : Int) with | (lo, hi) => pure (lo, (-1 : Int), Builtin.Slice.slicePlaces lo hi (-1))) _ _ s
  rw [adj_rev n]
  show wpAny _ _ (pure ((n : Int) - 1, (-1 : Int), Builtin.Slice.slicePlaces ((n : Int) - 1) (-1) (-1))) _ _ s
  rw [plc_rev]
  exact wpAny_pure h
theorem fm_congr {α β : Type} {f g : α → Option β} : ∀ {l : List α}, (∀ x ∈ l, f x = g x) → l.filterMap f = l.filterMap g
  | [], _ => rfl
  | x :: l, h => by rw [List.filterMap_cons, List.filterMap_cons, h x List.mem_cons_self, fm_congr fun y hy => h y (List.mem_cons_of_mem _ hy)]
theorem pick_rev (xs : Array Value) : ((List.range xs.size).filterMap fun (m : Nat) => xs[(((xs.size : Int) - 1) + (m : Int) * (-1)).toNat]?).toArray = xs.toList.reverse.toArray := by
  have e : ((List.range xs.size).filterMap fun (m : Nat) => xs[(((xs.size : Int) - 1) + (m : Int) * (-1)).toNat]?) = ((List.range xs.size).map fun k => xs.size - 1 - k).filterMap (xs[·]?) := by
    rw [List.filterMap_map]
    refine fm_congr fun m hm => ?_
    have := List.mem_range.mp hm
    have q : (((xs.size : Int) - 1) + (m : Int) * (-1)).toNat = xs.size - 1 - m := by omega
    simp only [q, Function.comp]
  rw [e, PySem.W.krv_range, List.filterMap_reverse, PySem.W.krv_all]
theorem getItem_tuple_rev {t sl : Addr} {xs : Array Value} {vs : Value} {Q : Value → Shared → Prop} (ht : IsTup s.heap t xs) (hs : s.heap.IsSliceOf sl .none .none vs) (ps : IsPart vs (some (-1)))
    (h : Q (.ref s.heap.objs.size) { s with heap := s.heap.push { cls := .type "tuple", data := .seq xs.toList.reverse.toArray } })
    (hz : xs.size ≤ sizeLine) : wpAny (model prog w) A (getItem (.ref t) (.ref sl)) Q E s := by
  have hk : sizeOk (.seq xs.toList.reverse.toArray) := by
    show xs.toList.reverse.toArray.size ≤ sizeLine
    rw [List.size_toArray, List.length_reverse, Array.length_toList]
    exact hz
  obtain ⟨os, ho, hc, hd⟩ := id hs
  have tS : s.TypeIs (.ref sl) "slice" := ⟨os, ho, hc⟩
  unfold getItem
  try with_reducible refine wpAny_holding ?_
  first | refine wpAny_bind (wpAny_pure ?_) | skip
  refine wpAny_bind (wpAny_sequenceKey ht.typeIs (by decide) ?_)
  refine wpAny_bind (wpAny_callSpecial?_slot (name := Str.ofString "__getitem__") ht.typeIs PyProof.Rows.slot_tuple_getitem (wpAny_call_entry PyProof.Rows.slot_tuple_getitem ht.typeIs entry_tuple_getitem ?_ (args_tuple_getitem _ _)))
  show wpAny _ _ (Builtin.Tuple.tupleItemsOf (.ref t) >>= _) _ _ s
  refine wpAny_bind (tupleItemsOf_ ht (wpAny_bind (wpAny_typeOf tS ?_)))
  rw [if_pos (by decide)]
  refine wpAny_bind (sl_rev hs ps ?_)
  have no : ¬ ((((xs.size : Int) - 1) == 0 && (-1 : Int) == 1 && xs.size == xs.size) = true) := by
    intro q
    rw [Bool.and_eq_true, Bool.and_eq_true] at q
    exact absurd q.1.2 (by decide)
  show wpAny _ _ (if ((((xs.size : Int) - 1) == 0 && (-1 : Int) == 1 && xs.size == xs.size) = true) then _ else _) _ _ s
  rw [if_neg no, pick_rev]
  first
    | exact wpAny_bind (m := Builtin.Tuple.tupleExact _) (wpAny_newObj_type (wpAny_pure ⟨_, rfl, wpAny_pure h⟩) hk)
    | exact wpAny_bind (m := Builtin.Tuple.tupleExact _) (wpAny_newObj_type (wpAny_bind (wpAny_pure (wpAny_pure ⟨_, rfl, wpAny_pure h⟩))) hk)
    | exact wpAny_bind (wpAny_bind (m := Builtin.Tuple.tupleExact _) (wpAny_newObj_type (wpAny_pure (wpAny_pure ⟨_, rfl, wpAny_pure h⟩)) hk))
    | exact wpAny_bind (wpAny_bind (m := Builtin.Tuple.tupleExact _) (wpAny_newObj_type (wpAny_pure ⟨_, rfl, wpAny_pure h⟩) hk))
end
end HT
namespace F
open PySem PySem.Spec PyProof.Rows L2
section
variable {X : Cx} {E : XK} {a : Expr} {ma : Ev → M D}
def revM : D → M D
  | .tup xs => .ret (.tup xs.reverse)
  | .lst xs => .ret (.lst xs.reverse)
  | _ => .bad
theorem wpAny_evalPartN {env : PySem.Env} {A : Around} {P : Program} {w : World} {E : Value → Shared → Prop} {Q : Value → Shared → Prop} {s : Shared} (h : Q .none s) : wpAny (model P w) A (evalPart none env) Q E s := by
  rw [evalPart_none]; exact wpAny_pure h
/-- a[::-1] -/
theorem re_rev {k : Nat} {p1 p2 p3 pos : Pos} (ha : RE X E a ma) : RE X E (.Subscript a (.Slice none none (some (.UnaryOp .USub (.Constant (.int 1) k p1) p2)) p3) pos) (eUn revM ma) := by
  refine ⟨fun pins s σ H Q I h => ?_⟩
  refine Subscript_ (thn (ha.run pins s σ H _ I (one (r := rD1 X.K X.mg E revM) (fun _ _ _ z => z) (fun _ _ _ z => z) h)) fun v s1 ⟨x, H1, I1, r1, g, S, d, ok, rx, q1⟩ => ?_)
  have hst : PO X (some (.UnaryOp .USub (.Constant (.int 1) k p1) p2)) (tPart (tUn (rU fun i => .int (-i)) (tC (.int 1)))) := po_some (pe_un un_neg pe_int)
  refine wpAny_Slice (wpAny_evalPartN (wpAny_evalPartN ?_))
  refine thn (hst.run pins s1 σ H1 (fun o H4 => o = some (-1) ∧ H4 = H1) I1 ⟨1, rfl, -1, rfl, rfl, rfl⟩) fun vs s4 ⟨o, H4, I4, ps, eo, e4⟩ => ?_
  subst eo e4
  have I5 : Inv X pins σ H4 { s4 with heap := s4.heap.push { cls := .type "slice", data := .fields #[.none, .none, vs] } } := I4.kept (t' := s4.toks) fun b ob q => Heap.get?_push_of_some _ q
  show wpAny (model X.prog X.w) X.A (subscriptTail a (.Slice none none (some (.UnaryOp .USub (.Constant (.int 1) k p1) p2)) p3) v (.ref s4.heap.objs.size)) (EP X pins σ Q) X.xe { s4 with heap := s4.heap.push { cls := .type "slice", data := .fields #[.none, .none, vs] } }
  cases d with
  | tup xs =>
    obtain ⟨p, ws, rfl, sq, rl⟩ := rep_ref rx
    cases r1
    obtain ⟨its, r, ht, hz⟩ := I5.tuple (SqT.sub ok.sub sq)
    have hn : H4 (s4.heap.objs.size + 1) = none := I4.hok.fresh (Nat.le_succ _)
    have hsz : (s4.heap.push { cls := .type "slice", data := .fields #[.none, .none, vs] }).objs.size = s4.heap.objs.size + 1 := Heap.size_push ..
    obtain ⟨ok2, gr2⟩ := ok.laid (o := .tup ws.reverse) hn
    refine tail_any (ops := [.ref p, .ref s4.heap.objs.size]) ht.typeIs (PyProof.Rows.slot_tuple_getitem.lookup) ?_ (by with_unfolding_all rfl)
    refine HT.getItem_tuple_rev ht (Heap.IsSliceOf.new _ .none .none vs) ps ?_ (by rw [List.size_toArray, ← r.length]; exact hz)
    have J := I5.laid (a := s4.heap.objs.size + 1) (t' := s4.toks) (o := .tup ws.reverse) (h' := (s4.heap.push { cls := .type "slice", data := .fields #[.none, .none, vs] }).push { cls := .type "tuple", data := .seq its.toArray.toList.reverse.toArray }) (fun b ob q => Heap.get?_push_of_some _ q) (Nat.le_of_eq hsz)
      ⟨by rw [List.length_reverse]; exact hz, _, r.reverse, by rw [← hsz]; exact IsTup.new _ _⟩
    exact ⟨.ref (s4.heap.objs.size + 1), _, J, by rw [hsz]; rfl, q1 _ _ _ gr2 ok2 (.tup (SqT.of upd_same) (gr2.repL rl.reverse))⟩
  | lst xs =>
    obtain ⟨p, ws, rfl, sq, rl⟩ := rep_refL rx
    cases r1
    obtain ⟨its, r, ht, hz⟩ := I5.list (SqL.of (K := X.K) (ok.sub _ _ sq))
    have hlen := r.length
    have hn : H4 (s4.heap.objs.size + 1) = none := I4.hok.fresh (Nat.le_succ _)
    have hsz : (s4.heap.push { cls := .type "slice", data := .fields #[.none, .none, vs] }).objs.size = s4.heap.objs.size + 1 := Heap.size_push ..
    obtain ⟨ok2, gr2, hF, hθ⟩ := ok.made (o := .lst ws.reverse) hn
    refine tail_any (ops := [.ref p, .ref s4.heap.objs.size]) ht.isList.typeIs (PySem.slot_list_getitem.lookup) ?_ (by with_unfolding_all rfl)
    refine wpAny_getItem_list_slice ht.isList (Heap.IsSliceOf.new _ .none .none vs) .none .none ps (by decide) ?_ (by rw [List.size_toArray]; omega)
    rw [PySem.W.krv_pick]
    have J := I5.laid (a := s4.heap.objs.size + 1) (t' := s4.toks) (o := .lst ws.reverse) (h' := (s4.heap.push { cls := .type "slice", data := .fields #[.none, .none, vs] }).push (seqObj "list" its.toArray.toList.reverse.toArray 0)) (fun b ob q => Heap.get?_push_of_some _ q) (Nat.le_of_eq hsz)
      ⟨by rw [List.length_reverse]; exact hz, _, 0, r.reverse, by rw [← hsz]; exact Heap.get?_push_size _ rfl⟩
    refine ⟨.ref (s4.heap.objs.size + 1), _, J, by rw [hsz]; rfl, ?_⟩
    have np : NP X.K g H4 Q xs.reverse S := NP.toV q1
    exact np g _ _ ws.reverse gr2 ok2 hn upd_same hF hθ rl.reverse
  | _ => exact q1.elim
end
end F
namespace F
open PySem PySem.Spec PyProof.Rows L2
section
variable {X : Cx} {E : XK} {g0 : Gw} {H0 : Hp}
/-! ### comprehensions -/
theorem rn_comp {elt tg iter : Expr} {ifs : List Expr} {scope : Scope} {pos : Pos} {it : Ev → M (List D)} {gm : GM} {tm : Ev → M Bool} {em : Ev → M D} {ts : List Nat} (own : List (Str × Nat)) (hc : X.calm = true) (hN : X.N.Nodup)
    (hi : RI X E tg iter it) (ok : BlkOk X.N X.env.scope scope own) (hts : ∀ j ∈ ts, j ∈ own.map (·.2))
    (hg : ∀ (s : Shared) (H : Hp) (C : Addr) (cl : List (Str × Addr)) (fp : List Addr), RG (X.blk s H scope (compEnvC scope cl C X.env) fp) tg ts gm)
    (ht : ∀ (s : Shared) (H : Hp) (C : Addr) (cl : List (Str × Addr)) (fp : List Addr), RTs (X.blk s H scope (compEnvC scope cl C X.env) fp) E0 ifs tm)
    (he : ∀ (s : Shared) (H : Hp) (C : Addr) (cl : List (Str × Addr)) (fp : List Addr), RE (X.blk s H scope (compEnvC scope cl C X.env) fp) E0 elt em) (hs : ∀ x, foldedSetIterable iter X.env x = pure x := by intro _; rfl) :
    RN X E (.ListComp elt [⟨tg, iter, ifs, 0⟩] scope pos) (nComp (own.map (·.2)) it gm tm em) :=
  pe_weak (pe_lc hc hN hi ok hg ht he hs) fun σ H Q h => comp_go hts (fun _ _ _ z => z) (fun _ _ _ _ z => z) (fun _ _ _ z => z) (fun _ _ _ z => z) h
/-- name = [..] on one line -/
theorem rs_ownC (i : Nat) {y : Str} {py : Pos} {elt tg iter : Expr} {ifs : List Expr} {scope : Scope} {pos spos : Pos} {it : Ev → M (List D)} {gm : GM} {tm : Ev → M Bool} {em : Ev → M D} {ts : List Nat} (own : List (Str × Nat)) (hc : X.calm = true) (hN : X.N.Nodup)
    (hi : RI X E tg iter it) (ok : BlkOk X.N X.env.scope scope own) (hts : ∀ j ∈ ts, j ∈ own.map (·.2))
    (hg : ∀ (s : Shared) (H : Hp) (C : Addr) (cl : List (Str × Addr)) (fp : List Addr), RG (X.blk s H scope (compEnvC scope cl C X.env) fp) tg ts gm)
    (ht : ∀ (s : Shared) (H : Hp) (C : Addr) (cl : List (Str × Addr)) (fp : List Addr), RTs (X.blk s H scope (compEnvC scope cl C X.env) fp) E0 ifs tm)
    (he : ∀ (s : Shared) (H : Hp) (C : Addr) (cl : List (Str × Addr)) (fp : List Addr), RE (X.blk s H scope (compEnvC scope cl C X.env) fp) E0 elt em)
    (hy : X.N[i]? = some y := by rfl) (hyl : X.env.scope.names.lookup y = some .local := by rfl) (hsw : swapsWith (.ListComp elt [⟨tg, iter, ifs, 0⟩] scope pos) (some (.Name y py)) spos.line X.env = pure true := by first | rfl | exact sw_true rfl rfl rfl rfl)
    (hs : ∀ x, foldedSetIterable iter X.env x = pure x := by intro _; rfl) :
    RS X g0 H0 E (.Assign [.Name y py] (.ListComp elt [⟨tg, iter, ifs, 0⟩] scope pos) spos) (sOwn i (nComp (own.map (·.2)) it gm tm em)) := by
  refine ps_weak (ps_setLc (g := tG X.K ts gm) (tt := tT X.K X.mg E0 tm) (te := tE X.K X.mg E0 em) hc hN hy hyl hsw hi ok hg ht he hs) fun W σ H h => ?_
  exact to_n (k := fun ds ρ => .ret (.nx (ρ.set i (.own ds)))) (fun σ H Q z => comp_go hts (fun _ _ _ z => z) (fun _ _ _ _ z => z) (fun _ _ _ z => z) (fun _ _ _ z => z) z) (fun g S ρ ds a vs H1 g' H' gr en gr1 ok n1 n2 n3 n4 r (z : CP X.K g0 H0 g' W (.nx (ρ.set i (.own ds))) S) => z g' H' _ (gr.trans gr1) .refl ok (en.seto gr1 i n1 n2 n3 n4 r (gr.dom _ n1))) h
/-- the same as a value -/
def sSetL (i : Nat) (m : Ev → M (List D)) : SM := fun ρ => m ρ >>= fun ds => .ret (.nx (ρ.set i (.v (.lst ds))))
theorem Grow.lay {g g' : Gw} {H H' : Hp} {a : Addr} {vs : List V} (gr : Grow g H g' H') (hn : H a = none) (hF : g'.F a = none) : Grow g H ⟨upd g'.F a (.lst vs), g'.θ⟩ H' := by
  refine ⟨gr.dom, gr.keep, gr.th, fun b o e => upd_fm hF b o (gr.fm b o e), fun b o e => ?_⟩
  by_cases hb : b = a
  · subst hb; exact .inr hn
  · have e : upd g'.F a (.lst vs) b = some o := e
    rw [upd_ne hb] at e; exact gr.fn b o e
theorem rs_setC (i : Nat) {y : Str} {py : Pos} {elt tg iter : Expr} {ifs : List Expr} {scope : Scope} {pos spos : Pos} {it : Ev → M (List D)} {gm : GM} {tm : Ev → M Bool} {em : Ev → M D} {ts : List Nat} (own : List (Str × Nat)) (hc : X.calm = true) (hN : X.N.Nodup)
    (hi : RI X E tg iter it) (ok : BlkOk X.N X.env.scope scope own) (hts : ∀ j ∈ ts, j ∈ own.map (·.2))
    (hg : ∀ (s : Shared) (H : Hp) (C : Addr) (cl : List (Str × Addr)) (fp : List Addr), RG (X.blk s H scope (compEnvC scope cl C X.env) fp) tg ts gm)
    (ht : ∀ (s : Shared) (H : Hp) (C : Addr) (cl : List (Str × Addr)) (fp : List Addr), RTs (X.blk s H scope (compEnvC scope cl C X.env) fp) E0 ifs tm)
    (he : ∀ (s : Shared) (H : Hp) (C : Addr) (cl : List (Str × Addr)) (fp : List Addr), RE (X.blk s H scope (compEnvC scope cl C X.env) fp) E0 elt em)
    (hy : X.N[i]? = some y := by rfl) (hyl : X.env.scope.names.lookup y = some .local := by rfl) (hsw : swapsWith (.ListComp elt [⟨tg, iter, ifs, 0⟩] scope pos) (some (.Name y py)) spos.line X.env = pure true := by first | rfl | exact sw_true rfl rfl rfl rfl)
    (hs : ∀ x, foldedSetIterable iter X.env x = pure x := by intro _; rfl) :
    RS X g0 H0 E (.Assign [.Name y py] (.ListComp elt [⟨tg, iter, ifs, 0⟩] scope pos) spos) (sSetL i (nComp (own.map (·.2)) it gm tm em)) := by
  refine ps_weak (ps_setLc (g := tG X.K ts gm) (tt := tT X.K X.mg E0 tm) (te := tE X.K X.mg E0 em) hc hN hy hyl hsw hi ok hg ht he hs) fun W σ H h => ?_
  refine to_n (k := fun ds ρ => .ret (.nx (ρ.set i (.v (.lst ds))))) (fun σ H Q z => comp_go hts (fun _ _ _ z => z) (fun _ _ _ _ z => z) (fun _ _ _ z => z) (fun _ _ _ z => z) z) (fun g S ρ ds a vs H1 g' H' gr en gr1 ok n1 n2 n3 n4 r z => ?_) h
  have gl := gr1.lay (vs := vs) n1 n3
  have z : CP X.K g0 H0 g' W (.nx (ρ.set i (.v (.lst ds)))) S := z
  exact z ⟨upd g'.F a (.lst vs), g'.θ⟩ H' _ (gr.trans gl) ⟨fun b o e => upd_fm n3 b o e, fun _ _ e => e⟩ (ok.froze n2 n3 n4) ((en.grow gl).setv i (.lst upd_same (r.mono (upd_fm n3) fun _ _ q => q)))
/-! ### two at once, own lists -/
/-- x, y = a new list, a value -/
def sParNV (i j : Nat) (m : Ev → M (List D)) (mb : Ev → M D) : SM := fun ρ => m ρ >>= fun ds => mb ρ >>= fun e => .ret (.nx ((ρ.set i (.own ds)).set j (.v e)))
def sParNN (i j : Nat) (m n : Ev → M (List D)) : SM := fun ρ => m ρ >>= fun ds => n ρ >>= fun es => .ret (.nx ((ρ.set i (.own ds)).set j (.own es)))
section
variable {a b : Expr} {x y : Str} {px py pt pos : Pos} {kt k2 : Nat} {pt2 : Pos} {m n : Ev → M (List D)} {mb : Ev → M D}
theorem rs_parNN (i j : Nat) (hc : X.calm = true) (hN : X.N.Nodup) (ha : RN X E a m) (hb : RN X E b n) (hi : X.N[i]? = some x := by rfl) (hj : X.N[j]? = some y := by rfl) (hij : i ≠ j := by decide)
    (hx : X.env.scope.names.lookup x = some .local := by rfl) (hy : X.env.scope.names.lookup y = some .local := by rfl)
    (hst : starEach [a, b] X.env = (false, eval a X.env) :: starEach [b] X.env := by rfl) (hst2 : starEach [b] X.env = (false, eval b X.env) :: starEach [] X.env := by rfl)
    (hw : swappedStores [.Tuple [.Name x px, .Name y py] kt pt] (.Tuple [a, b] k2 pt2) X.env = pure (some [x, y]) := by rfl)
    (hs : swapsWithSole [.Tuple [.Name x px, .Name y py] kt pt] (.Tuple [a, b] k2 pt2) pos.line X.env = pure false := by rfl) :
    RS X g0 H0 E (.Assign [.Tuple [.Name x px, .Name y py] kt pt] (.Tuple [a, b] k2 pt2) pos) (sParNN i j m n) := by
  refine ps_weak (ps_par hc hN hi hj hij hx hy (pa_cons ha (pa_cons hb pa_nil hst2) hst) hw hs) fun W σ H ⟨g, S, ρ, gr, ok, en, h⟩ => ?_
  refine ⟨g, S, ρ, _, ok, en, wp_mono (wp_bind.mp h) (fun ds S1 h1 g1 H1 p vs gr1 ok1 n1 n2 n3 n4 r => ?_) fun _ _ z => z.grow gr⟩
  refine ⟨g1, S1, ρ, _, ok1, en.grow gr1, wp_mono (wp_bind.mp h1) (fun es S2 h2 g2 H2 p2 ws gr2 ok2 m1 m2 m3 m4 r2 => ?_) fun _ _ z => z.grow (gr.trans gr1)⟩
  have o2 := (show OwnAt g1 (fun _ => True) p from ⟨trivial, n3, n4⟩).grow n2 gr2
  have gr12 := gr1.trans gr2
  have en1 := en.seto gr1 i n1 n2 n3 n4 r (gr.dom _ n1)
  exact ⟨.ref p, .ref p2, rfl, h2 g2 H2 _ (gr.trans gr12) gr12.ext ok2 (en1.seto gr2 j m1 m2 m3 m4 r2 (gr.dom _ (gr1.dom _ m1)))⟩
theorem rs_parNV (i j : Nat) (hc : X.calm = true) (hN : X.N.Nodup) (ha : RN X E a m) (hb : RE X E b mb) (hi : X.N[i]? = some x := by rfl) (hj : X.N[j]? = some y := by rfl) (hij : i ≠ j := by decide)
    (hx : X.env.scope.names.lookup x = some .local := by rfl) (hy : X.env.scope.names.lookup y = some .local := by rfl)
    (hst : starEach [a, b] X.env = (false, eval a X.env) :: starEach [b] X.env := by rfl) (hst2 : starEach [b] X.env = (false, eval b X.env) :: starEach [] X.env := by rfl)
    (hw : swappedStores [.Tuple [.Name x px, .Name y py] kt pt] (.Tuple [a, b] k2 pt2) X.env = pure (some [x, y]) := by rfl)
    (hs : swapsWithSole [.Tuple [.Name x px, .Name y py] kt pt] (.Tuple [a, b] k2 pt2) pos.line X.env = pure false := by rfl) :
    RS X g0 H0 E (.Assign [.Tuple [.Name x px, .Name y py] kt pt] (.Tuple [a, b] k2 pt2) pos) (sParNV i j m mb) := by
  refine ps_weak (ps_par hc hN hi hj hij hx hy (pa_cons ha (pa_cons hb pa_nil hst2) hst) hw hs) fun W σ H ⟨g, S, ρ, gr, ok, en, h⟩ => ?_
  refine ⟨g, S, ρ, _, ok, en, wp_mono (wp_bind.mp h) (fun ds S1 h1 g1 H1 p vs gr1 ok1 n1 n2 n3 n4 r => ?_) fun _ _ z => z.grow gr⟩
  refine ⟨g1, S1, ρ, _, ok1, en.grow gr1, wp_mono (wp_bind.mp h1) (fun e S2 h2 g2 H2 v gr2 ok2 rv => ?_) fun _ _ z => z.grow (gr.trans gr1)⟩
  have o2 := (show OwnAt g1 (fun _ => True) p from ⟨trivial, n3, n4⟩).grow n2 gr2
  have gr12 := gr1.trans gr2
  exact ⟨.ref p, v, rfl, h2 g2 H2 _ (gr.trans gr12) gr12.ext ok2 ((en.seto gr12 i n1 (gr2.keep _ _ n2 n4) o2.2.1 o2.2.2 (gr2.repL r) (gr.dom _ n1)).setv j rv)⟩
end
/-! ### repr -/
def shownM (d : D) : M D := if d.sh = true then match d.py with
    | some p => if p.showable = true ∧ p.shown.length ≤ sizeLine then .ret (.str p.shown) else .bad
    | none => .bad
  else .bad
def reprM : D → M D
  | .tup xs => shownM (.tup xs)
  | .lst xs => shownM (.lst xs)
  | .int i => if i.natAbs.log2 < 1920 then .ret (.str (toString i)) else .bad
  | _ => .bad
theorem b_repr (gd : X.A.guards = some []) (hu : X.A.units + 65 < cLine) : CallR X (.builtin "repr") (rDL X.K X.mg E (L1 reprM)) := by
  intro pins s σ H xs us Q I r ⟨g, S, ds, ok, rp, h⟩
  match ds, h with
  | [d], h =>
    obtain ⟨v, rfl, rv⟩ := repL_one rp
    have go : ∀ d : D, (∃ a, v = .ref a) → Rep X.K g.F g.θ v d → wp (shownM d) S (VP X.K g H Q) (XP X.K X.mg g H E) → wpAny (model X.prog X.w) X.A (call (.builtin "repr") us) (EP X pins σ Q) X.xe s := by
      rintro d ⟨a, rfl⟩ rv h
      obtain ⟨hs, h⟩ := wp_guard h
      obtain ⟨p, e, c, z⟩ := D.py_pl d (by have := hs; unfold D.sh at this; simp at this; exact this.1)
      rw [e] at h
      obtain ⟨⟨h1, h2⟩, h⟩ := wp_guard h
      obtain ⟨u, rfl, r1⟩ := vals1 r
      obtain ⟨as, rd⟩ := Dp.reads I p (.ref a) u (Rep.dp (fun a o q => ok.sub a o q) rv e) r1
      cases r1
      have hd : p.depth ≤ 64 := by rw [z]; unfold D.sh at hs; simp at hs; exact hs.2
      exact repr_of_reads' rd h1 (PyData.noDict_hsm (PyData.hasDict_of_canLay p c)) gd (by omega) (fun _ _ e => e) (fun h' u tk hk => ⟨.str p.shown, H, I.kept hk, ⟨u, rfl⟩, h g H _ .refl ok (.str _)⟩) h2
    cases d with
    | tup ys => exact go _ (let ⟨a, _, e, _⟩ := rep_ref rv; ⟨a, e⟩) rv h
    | lst ys => exact go _ (let ⟨a, _, e, _⟩ := rep_refL rv; ⟨a, e⟩) rv h
    | int i =>
      cases rv
      obtain ⟨hz, h⟩ := wp_guard h
      exact SkE.call_repr_int pins s σ H _ us Q I r ⟨i, rfl, hz, h g H _ .refl ok (.str _)⟩
    | _ => exact h.elim
  | [], h => exact h.elim
  | _ :: _ :: _, h => exact h.elim
/-! ### sorted(set(..)) of ints, join -/
def sSetN : D → M (List D)
  | .lst xs => match intsOf xs with
    | some ns => if ns.length < 64 then .ret ((srtI ns.eraseDups).map D.int) else .bad
    | none => .bad
  | .tup xs => match intsOf xs with
    | some ns => if ns.length < 64 then .ret ((srtI ns.eraseDups).map D.int) else .bad
    | none => .bad
  | _ => .bad
def nUn (om : D → M (List D)) (ma : Ev → M D) : Ev → M (List D) := fun ρ => ma ρ >>= om
theorem dd_nodup : ∀ (n : Nat) (l : List Int), l.length ≤ n → l.eraseDups.Nodup ∧ ∀ x, x ∈ l.eraseDups ↔ x ∈ l := by
  intro n
  induction n with
  | zero => intro l h; have : l = [] := List.eq_nil_of_length_eq_zero (by omega); subst this; simp
  | succ n ih =>
    intro l h
    cases l with
    | nil => simp
    | cons a l =>
      rw [List.eraseDups_cons]
      have hl : (l.filter fun b => !b == a).length ≤ n := Nat.le_trans (List.length_filter_le _ _) (by simpa using h)
      obtain ⟨h1, h2⟩ := ih _ hl
      refine ⟨List.nodup_cons.mpr ⟨fun z => ?_, h1⟩, fun x => ?_⟩
      · have := (h2 a).mp z
        simp at this
      · rw [List.mem_cons, h2, List.mem_cons, List.mem_filter]
        constructor
        · rintro (e | ⟨e, _⟩)
          · exact .inl e
          · exact .inr e
        · rintro (e | e)
          · exact .inl e
          · by_cases q : x = a
            · exact .inl q
            · exact .inr ⟨e, by simpa using q⟩
theorem srt_sorted (ns : List Int) : (srtI ns).Pairwise (· ≤ ·) := by
  have := List.pairwise_mergeSort (le := fun a b : Int => decide (a ≤ b)) (fun a b c h1 h2 => by simp at *; omega) (fun a b => by simp; omega) ns
  exact this.imp fun h => by simpa using h
theorem srt_perm (ns : List Int) : (srtI ns).Perm ns := List.mergeSort_perm ns _
theorem srt_uniq {ns ms : List Int} (h1 : ns.Pairwise (· < ·)) (h2 : ms.Pairwise (· ≤ ·)) (hd : ms.Nodup) (h : ∀ x, x ∈ ns ↔ x ∈ ms) : ns = ms := by
  have n1 : ns.Nodup := h1.imp fun h => by omega
  have p : ns.Perm ms := (List.perm_ext_iff_of_nodup n1 hd).mpr h
  exact p.eq_of_pairwise (le := (· ≤ ·)) (fun a b _ _ h1 h2 => by omega) (h1.imp fun h => by omega) h2
theorem rn_sortedSet {p1 p2 pos pos2 : Pos} {ma : Ev → M D} {a : Expr} (hc : X.calm = true) (ha : RE X E a ma) (hg : Gl X "sorted") (hm : X.mg "sorted" = none) (hg2 : Gl X "set") (hm2 : X.mg "set" = none)
    (he : starEach [.Call (.Name "set" p2) [a] [] pos2] X.env = (false, eval (.Call (.Name "set" p2) [a] [] pos2) X.env) :: starEach [] X.env := by rfl) (he2 : starEach [a] X.env = (false, eval a X.env) :: starEach [] X.env := by rfl) :
    RN X E (.Call (.Name "sorted" p1) [.Call (.Name "set" p2) [a] [] pos2] [] pos) (nUn sSetN ma) := by
  have inner := pe_callTy (cr_setLI hc) hg2 hm2 PyProof.Rows.boot_set (pa_cons ha pa_nil he2) (he := he2) (pos := pos2) (p := p2)
  refine pe_weak (pe_callB (cr_sortedSet hc) hg hm PyProof.Rows.boot_sorted (pa_cons inner pa_nil he) (he := he)) fun σ H Q ⟨g, S, ρ, L, ok, en, h⟩ => ?_
  refine ⟨g, S, ρ, L, ok, en, wp_mono (wp_bind.mp h) (fun d S1 h1 g1 H1 v gr1 ok1 rv => ?_) fun _ _ z => z⟩
  have go : ∀ (q : Addr) (vs : List V) (xs : List D), v = .ref q → RepL X.K g1.F g1.θ vs xs → (SqL X.K H1 q vs ∨ SqT X.K H1 q vs) → wp (match intsOf xs with | some ns => if ns.length < 64 then M.ret ((srtI ns.eraseDups).map D.int) else .bad | none => .bad) S1 (NP X.K g H Q) (XP X.K X.mg g H E) →
      rSetLI X.K X.w [v] H1 fun x H2 => rSortedSet X.w [x] H2 Q := by
    intro q vs xs ev rl sq h1
    subst ev
    cases ei : intsOf xs with
    | none => rw [ei] at h1; exact h1.elim
    | some ns =>
      rw [ei] at h1
      obtain ⟨hz, h1⟩ := wp_guard h1
      have evs : vs = ns.map V.int := repL_ints (by rw [intsOf_map ei] at rl; exact rl)
      subst evs
      refine ⟨q, ns, rfl, sq, by unfold scanBound; omega, fun q2 c hcn hq2 => ⟨q2, _, c, rfl, upd_same, by omega, fun ms p2 hp hmem hl hp2 => ?_⟩⟩
      obtain ⟨dn, dm⟩ := dd_nodup _ ns (Nat.le_refl _)
      have em : ms = srtI ns.eraseDups := srt_uniq hp (srt_sorted _) ((srt_perm _).nodup_iff.mpr dn) fun x => by rw [hmem x, (srt_perm _).mem_iff, dm]; simp
      subst em
      obtain ⟨ok2, gr2, hF2, hθ2⟩ := ok1.made (o := SetO X.w q2 (fun j => decide (j ∈ ns)) c) hq2
      obtain ⟨ok3, gr3, hF3, hθ3⟩ := ok2.made (o := .lst ((srtI ns.eraseDups).map V.int)) hp2
      have grA := gr1.trans (gr2.trans gr3)
      exact h1 g1 _ p2 _ grA ok3 (gr1.dom _ (gr2.dom _ hp2)) upd_same hF3 hθ3 (ints_repL _)
  cases d with
  | lst xs => obtain ⟨q, vs, rfl, sq, rl⟩ := rep_refL rv; exact go q vs xs rfl rl (.inl (SqL.of (ok1.sub _ _ sq))) h1
  | tup xs => obtain ⟨q, vs, rfl, sq, rl⟩ := rep_ref rv; exact go q vs xs rfl rl (.inr (SqT.sub ok1.sub sq)) h1
  | _ => exact h1.elim
def joinM (a : Str) : D → M D
  | .lst xs => match strsOf xs with
    | some ys => if (ys.map (·.length)).sum + ys.length * a.length ≤ 16777216 then .ret (.str (Txt.join a ys)) else .bad
    | none => .bad
  | .tup xs => match strsOf xs with
    | some ys => if (ys.map (·.length)).sum + ys.length * a.length ≤ 16777216 then .ret (.str (Txt.join a ys)) else .bad
    | none => .bad
  | _ => .bad
def eJoin (mo ma : Ev → M D) : Ev → M D := fun ρ => mo ρ >>= fun d => match d with
  | .str a => ma ρ >>= joinM a
  | _ => .bad
theorem re_join {o a : Expr} {mo ma : Ev → M D} {apos pos : Pos} (ho : RE X E o mo) (ha : RE X E a ma) (hs : starEach [a] X.env = [(false, eval a X.env)] := by rfl) (hbase : attributeBase o "join" X.env (eval o X.env) = eval o X.env := by rfl) (hline : (apos.endLine == pos.line) = true := by rfl) :
    RE X E (.Call (.Attribute o "join" apos) [a] [] pos) (eJoin mo ma) := by
  refine pe_weak (pe_join ho ha hs hbase hline) fun σ H Q ⟨g, S, ρ, L, ok, en, h⟩ => ?_
  refine ⟨g, S, ρ, L, ok, en, wp_mono (wp_bind.mp h) (fun d S1 h1 g1 H1 v gr1 ok1 rv => ?_) fun _ _ z => z⟩
  cases d with
  | str t =>
    cases rv
    refine ⟨⟨t, rfl⟩, g1, S1, ρ, L, ok1, en.grow gr1, wp_mono (wp_bind.mp h1) (fun d2 S2 h2 g2 H2 v2 gr2 ok2 rv2 => ?_) fun _ _ z => z.grow gr1⟩
    have gr12 := gr1.trans gr2
    cases d2 with
    | lst xs =>
      obtain ⟨q, vs, rfl, sq, rl⟩ := rep_refL rv2
      unfold joinM at h2
      cases e : strsOf xs with
      | some ys =>
        simp only [e] at h2
        obtain ⟨hz, h2⟩ := wp_guard h2
        have evs : vs = ys.map V.str := repL_strs (by rw [strsOf_map e] at rl; exact rl)
        subst evs
        exact ⟨t, q, ys, rfl, rfl, .inl (SqL.of (ok2.sub _ _ sq)), hz, h2 g2 H2 _ gr12 ok2 (.str _)⟩
      | none => simp only [e] at h2; exact h2.elim
    | tup xs =>
      obtain ⟨q, vs, rfl, sq, rl⟩ := rep_ref rv2
      unfold joinM at h2
      cases e : strsOf xs with
      | some ys =>
        simp only [e] at h2
        obtain ⟨hz, h2⟩ := wp_guard h2
        have evs : vs = ys.map V.str := repL_strs (by rw [strsOf_map e] at rl; exact rl)
        subst evs
        exact ⟨t, q, ys, rfl, rfl, .inr (SqT.sub ok2.sub sq), hz, h2 g2 H2 _ gr12 ok2 (.str _)⟩
      | none => simp only [e] at h2; exact h2.elim
    | _ => exact h2.elim
  | _ => exact h1.elim
end
end F
namespace F
open PySem PySem.Spec PyProof.Rows L2
/-! ## calls with keywords alone: f(x=..) -/
structure Fnk (P : Program) (w : World) (K : PySem.W.Frag) (mg : Str → Option Value) (base : Heap) (k : Nat) (x : Str) (ks : List Str) (fM : List D → M D) : Prop where
  ex : ∃ (f : Addr) (fd : FuncData) (ps : List Str), FnG P w K mg base k f fd ps (spM K mg ks.length fM) ∧ mg x = some (.ref f) ∧ PySem.W.keepIn K (.ref f) = true ∧
    (∀ (s : Shared) (ws : List Value), ws.length = ks.length → BindsTo s fd ⟨[], ks.zip ws⟩ (ps.zip ws))
section
variable {X : Cx} {E : XK} {j k : Nat} {x : Str} {ks : List Str} {fM : List D → M D} {kws : List Keyword} {p pos : Pos} {mas : Ev → M (List D)}
abbrev RK (X : Cx) (E : XK) (e : List Keyword) (m : Ev → M (List D)) : Prop := PK X e (tA X.K X.mg E m)
theorem pk_weak {e : List Keyword} {t t' : TA} (h : PK X e t) (w : ∀ σ H Q, t' σ H Q → t σ H Q) : PK X e t' := ⟨fun pos pins s σ H Q I q => h.run pos pins s σ H Q I (w σ H Q q)⟩
theorem rk_nil : RK X E [] aNil := pk_weak pk_nil fun σ H Q ⟨g, S, ρ, L, ok, en, h⟩ => h g H [] .refl ok .nil
theorem rk_cons {a : Expr} {nm : Option Str} {kp : Pos} {ma : Ev → M D} (ha : RE X E a ma) (hr : RK X E kws mas) : RK X E (⟨nm, a, kp⟩ :: kws) (aCons ma mas) := by
  refine pk_weak (pk_cons ha hr) fun σ H Q ⟨g, S, ρ, L, ok, en, h⟩ => ?_
  refine ⟨g, S, ρ, L, ok, en, wp_mono (wp_bind.mp h) (fun d S1 h1 g1 H1 v gr1 ok1 r => ?_) fun _ _ z => z⟩
  refine ⟨g1, S1, ρ, L, ok1, en.grow gr1, wp_mono (wp_bind.mp h1) (fun ds S2 h2 g2 H2 vs gr2 ok2 rs => ?_) fun _ _ z => z.grow gr1⟩
  exact h2 g2 H2 _ (gr1.trans gr2) ok2 (.cons (gr2.rep r) rs)
theorem re_fk (fn : Fnk X.prog X.w X.K X.mg X.base j x ks fM) (c : Cal X E k) (gd : X.A.guards = some []) (hjk : j ≤ k) (hg : Gl X x) (ha : RK X E kws mas)
    (hks : (backToKw pos (keywordEach kws X.env)).filterMap (·.1) = ks := by rfl) (hall : (backToKw pos (keywordEach kws X.env)).all (·.1.isSome) = true := by rfl) (hdb : (x == ("__debug__" : Str)) = false := by decide)
    (hpl : ((backTo pos (starEach [] X.env)).any (·.1) || (backToKw pos (keywordEach kws X.env)).any (·.1.isNone)) = false := by rfl) :
    RE X E (.Call (.Name x p) [] kws pos) (eF ks.length fM mas) := by
  obtain ⟨f, fd, ps, G, hm, hk, hb⟩ := fn.ex
  refine ⟨fun pins s σ H Q I ⟨g, S, ρ, L, ok, en, h⟩ => ?_⟩
  refine wpAny_Call_Name_kw (ld_glob I hg hm ?_ hdb)
  refine PySem.W.callWith_KW0 (h₀ := X.base) I.ok.mod.kin hk hall ?_ hpl
  refine thn (ha.run pos pins s σ H (fun vs H1 => spM X.K X.mg ks.length fM vs H1 Q E) I ⟨g, S, ρ, L, ok, en, wp_mono (wp_bind.mp h) (fun ds S1 h1 g1 H1 vs gr ok1 r => ?_) fun _ _ z => z⟩) fun ws s2 ⟨zs, H2, I2, rz, q2⟩ => ⟨I2.kIn, ?_⟩
  · obtain ⟨hz, h1⟩ := wp_guard h1
    exact ⟨r.length.trans hz, g1, S1, ds, ok1, r, wp_mono h1 (fun _ _ z => z.grow gr) fun _ _ z => z.grow gr⟩
  · rw [hks]
    refine wpAny_call (codeAny_mono (G.go X.A X.stack s2 H2 ⟨[], ks.zip ws⟩ ws zs Q E (c.room.mono hjk) gd I2.env0 (hb s2 ws (rz.length.symm.trans q2.1)) rz q2) fun r s' hq => ?_)
    match r, hq with
    | .error e, hq => exact c.ps pins σ H2 s2 e s' I2 hq
    | .ok (.ret u), hq => exact I2.after hq
    | .ok .next, hq => exact hq.elim
    | .ok .brk, hq => exact hq.elim
    | .ok .cont, hq => exact hq.elim
end
end F
namespace F
open PySem PySem.Spec PyProof.Rows L2
/-! ## the module's facts -/
structure Gd (fa : List He.Fa) (fn : List He.DefD) (ex : PySem.W.Frag → Bool) (K : PySem.W.Frag) (mg : Str → Option Value) (base : Heap) : Prop where
  says : He.SaysD fa fn K
  ex : ex K = true
  kin : K.In base
  ns : base.Ns mainGlobals mg
section
variable {fa : List He.Fa} {fn : List He.DefD} {ex : PySem.W.Frag → Bool} {P : Program} {w : World} {K : PySem.W.Frag} {mg : Str → Option Value} {base : Heap} {x : Str} {k : Nat}
theorem Gd.glo (g : Gd fa fn ex K mg base) (i : Nat) (h : fa[i]? = some (.glo x) := by rfl) : mg x = some (.ref (He.ga K x)) := He.glo_ok g.kin g.ns (g.says.fact i h)
theorem Gd.free (g : Gd fa fn ex K mg base) (i : Nat) (h : fa[i]? = some (.free x) := by rfl) : mg x = none := He.free_ok g.kin g.ns (g.says.fact i h)
variable {qual : Str} {params : Arguments} {body : List Stmt} {scope : Scope} {f : Addr} {fd : FuncData} {N ps : List Str} {bm : SM}
abbrev cxD (P : Program) (w : World) (K : PySem.W.Frag) (mg : Str → Option Value) (base : Heap) (N : List Str) (qual : Str) (scope : Scope) (f : Addr) (cdv : Value) (A : Around) (outer : List PySem.Env) (s : Shared) (H : Hp) (E : XK) : Cx := cxOf (L2.CX P w) P w K mg base N qual scope f cdv A outer s H E
/-- a def by its body, the context as it is made -/
theorem fnC (F : FunD K x qual params body scope [] [] f fd) (S : FnScope N ps scope)
    (hb : ∀ (cdv : Value) (A : Around) (outer : List PySem.Env) (s : Shared) (g0 : Gw) (H : Hp) (E : XK), Def0 (cxD P w K mg base N qual scope f cdv A outer s H E) E k → (cxD P w K mg base N qual scope f cdv A outer s H E).A.guards = some [] →
      RSs (cxD P w K mg base N qual scope f cdv A outer s H E) g0 H E body bm) : FnG P w K mg base (k + 1) f fd ps (spM K mg ps.length (runB N.length bm)) := by
  obtain ⟨oc, od, dV, kV, doc, pm, an, cdv, ct, osl, rfl, lk, hcd, _, _⟩ := F.ex
  refine ⟨fun vs H Q E h => h.1, fun A outer s H args us vs Q E hr hgd e0 hbd r hsp => ?_⟩
  have keep : ∀ b o, base.get? b = some o → s.heap.get? b = some o := fun b o e => (e0.bs b o e).1
  refine codeAny_call_function hr.depth (e0.mod.kin.keeps keep _ _ lk) rfl S.co S.gen rfl (PySem.W.codeRec_of (e0.mod.kin.keeps keep) hcd) (hbd _ _ _ _ (wpAny_newFunctionEnv_cells S.kind (fun y hy => ?_) fun env he s1 x => ?_))
  · rcases S.par y.1 (List.of_mem_zip hy).1 with q | q
    · exact .inl q
    · exact .inr ⟨q, PySem.W.cellsFrom_some _ _ _ (.inl q)⟩
  subst he
  refine ⟨(e0.mod.nolimit.keeps keep).keeps x.toInCall.keep, codeAny_func ?_⟩
  have I : Inv (cxD P w K mg base N qual scope f cdv A outer s H E) [] (start N vs) H s1 := inv_start S hr.hd e0 hsp.1 r x
  obtain ⟨g, hq⟩ := body_go hsp.2
  have d0 : Def0 (cxD P w K mg base N qual scope f cdv A outer s H E) E k := ⟨rfl, takes_of rfl rfl rfl rfl, hr.deeper _, passes_of rfl⟩
  refine wpAny_mono ((hb cdv A outer s g H E d0 hgd).run [] s1 (start N vs) H _ I hq) (fun fl s' hs => ?_) fun e s' hs => hs
  cases fl with
  | ret u => obtain ⟨v, σ', H', J, rv, q⟩ := hs; exact ⟨v, H', J.os, J.bare, J.base, J.hok, rv, q⟩
  | next => obtain ⟨σ', H', J, q⟩ := hs; exact ⟨V.non, H', J.os, J.bare, J.base, J.hok, rfl, q⟩
  | brk => obtain ⟨_, _, _, q⟩ := hs; exact q.elim
  | cont => obtain ⟨_, _, _, q⟩ := hs; exact q.elim
/-- its call's binding, no defaults -/
def BindF (x qual : Str) (params : Arguments) (body : List Stmt) (scope : Scope) (ps : List Str) : Prop := ∀ (kV doc pm : Value) (an : Option Addr) (cdv ct : Value) (us : List Value), us.length = ps.length →
  bindArgs (PySem.W.fnOf x qual params body scope .none kV doc pm an cdv ct) ⟨us, []⟩ = pure (ps.zip us)
theorem FunD.fd_eq (F : FunD K x qual params body scope [] [] f fd) : ∃ (kV doc pm : Value) (an : Option Addr) (cdv ct : Value), fd = PySem.W.fnOf x qual params body scope .none kV doc pm an cdv ct := by
  obtain ⟨oc, od, dV, kV, doc, pm, an, cdv, ct, osl, rfl, lk, hcd, hD, hK⟩ := F.ex
  rcases hD with ⟨_, rfl⟩ | ⟨e, _⟩
  · exact ⟨kV, doc, pm, an, cdv, ct, rfl⟩
  · exact absurd rfl e
theorem fnc_of {n : Nat} {fM : List D → M D} (F : FunD K x qual params body scope [] [] f fd) (hm : mg x = some (.ref f)) (hn : ps.length = n) (G : FnG P w K mg base k f fd ps (spM K mg n fM)) (hb : BindF x qual params body scope ps) : Fnc P w K mg base k x n fM := by
  obtain ⟨kV, doc, pm, an, cdv, ct, rfl⟩ := FunD.fd_eq F
  exact ⟨f, _, ps, G, hm, F.kp, .all (hb kV doc pm an cdv ct), hn⟩
def BindK (x qual : Str) (params : Arguments) (body : List Stmt) (scope : Scope) (ps ks : List Str) : Prop := ∀ (kV doc pm : Value) (an : Option Addr) (cdv ct : Value) (ws : List Value), ws.length = ks.length →
  bindArgs (PySem.W.fnOf x qual params body scope .none kV doc pm an cdv ct) ⟨[], ks.zip ws⟩ = pure (ps.zip ws)
theorem fnk_of {ks : List Str} {fM : List D → M D} (F : FunD K x qual params body scope [] [] f fd) (hm : mg x = some (.ref f)) (G : FnG P w K mg base k f fd ps (spM K mg ks.length fM)) (hb : BindK x qual params body scope ps ks) : Fnk P w K mg base k x ks fM := by
  obtain ⟨kV, doc, pm, an, cdv, ct, rfl⟩ := FunD.fd_eq F
  exact ⟨f, _, ps, G, hm, F.kp, fun s ws hl => .of_eq (hb kV doc pm an cdv ct ws hl)⟩
/-- a table of the module -/
theorem re_tab {X : Cx} {E : XK} {y : Str} {vs : List V} {ds : List D} {pos : Pos} (hg : Gl X y) (hm : X.mg y = some (.ref (He.ga X.K y))) (ht : ∀ H, SqT X.K H (He.ga X.K y) vs) (r : ∀ F θ, RepL X.K F θ vs ds) (hd : (y == ("__debug__" : Str)) = false := by decide) : RE X E (.Name y pos) (eC (.tup ds)) :=
  re_glob hg hm (v := .ref (He.ga X.K y)) rfl (fun F θ => .tup (ht F) (r F θ)) hd
def scB (N P : List Str) (sc : Scope) : Bool :=
  decide (sc.kind = .function) && (!sc.isCoroutine && (!sc.isGenerator && (decide N.Nodup && (decide (N.take P.length = P) && (P.all (fun x => decide (sc.names.lookup x = some .local) || decide (sc.names.lookup x = some .cell)) && sc.names.all (fun y => !decide (y.2 = .free)))))))
theorem scope_ok {N P : List Str} {sc : Scope} (h : scB N P sc = true) : FnScope N P sc := by
  unfold scB at h
  simp only [Bool.and_eq_true, Bool.not_eq_true', decide_eq_true_eq, List.all_eq_true, Bool.or_eq_true, decide_eq_false_iff_not] at h
  exact ⟨h.1, h.2.1, h.2.2.1, h.2.2.2.1, h.2.2.2.2.1, h.2.2.2.2.2.1, h.2.2.2.2.2.2⟩
theorem Def0.u64 {X : Cx} {E : XK} {k : Nat} (d : Def0 X E k) : X.A.units + 64 < cLine := by have := d.room.un; omega
theorem cal_b {X : Cx} {E : XK} {k : Nat} (c : Cal X E k) (s : Shared) (H : Hp) (scope : Scope) (cenv : PySem.Env) (fp : List Addr) : Cal (X.blk s H scope cenv fp) E0 k :=
  ⟨fun _ _ _ _ _ _ _ ⟨_, _, _, _, _, _, _, _, _, _, _, _, e⟩ => e.elim, c.room⟩
theorem fn_bad {n : Nat} (hn : ps.length = n := by rfl) : FnG P w K mg base k f fd ps (spM K mg n fun _ => .bad) :=
  ⟨fun vs H Q E h => h.1.trans hn.symm, fun A outer s H args us vs Q E hr hgd e0 hbd r hsp => let ⟨g, S, ds, ok, rp, h⟩ := hsp.2; (h : False).elim⟩
theorem rt_cmp {X : Cx} {E : XK} {a b : Expr} {ma mb : Ev → M D} {pos : Pos} {op : CmpOp} {om : D → D → M D} (ho : OpR X (compareOp op) (rD2 X.K X.mg E om)) (ha : RE X E a ma) (hb : RE X E b mb) (hm : behindInMarks op b = false := by first | exact nomark _ | rfl) : RT X E (.Compare a [op] [b] pos) (tV (eBin om ma mb)) := by
  refine pt_weak (pt_cmpR ho ha hb hm) fun σ H Q ⟨g, S, ρ, L, ok, en, h⟩ => ?_
  refine two (r := rD2 X.K X.mg E om) (fun _ _ _ z => z) (fun _ _ _ z => z) (fun _ _ _ _ z => z) ⟨g, S, ρ, L, ok, en, wp_mono (wp_bind.mp h) (fun d S1 h1 g1 H1 v gr ok1 r => ?_) fun _ _ z => z⟩
  cases d with
  | bl c => cases r; exact ⟨c, rfl, h1 g1 H1 gr ok1⟩
  | _ => exact h1.elim
end
end F
namespace F
open PySem PySem.Spec PyProof.Rows L2
/-! ## the feed, opened -/
def fdGet (key : Str) (cs : List Int) (sp lf tn : Int) : M D :=
  if key = "cells" then .ret (.lst (cs.map D.int)) else if key = "spot" then .ret (.int sp) else if key = "left" then .ret (.int lf) else if key = "turns" then .ret (.int tn) else .bad
def fdSet (key : Str) (z : Int) (cs : List Int) (sp lf tn : Int) : Option OS :=
  if key = "spot" then some (.fd cs z lf tn) else if key = "left" then some (.fd cs sp z tn) else if key = "turns" then some (.fd cs sp lf z) else none
def getFd (ρ : Ev) (i : Nat) (k : Nat → List OS → List Int → Int → Int → Int → M α) : M α := match ρ[i]? with
  | some (.v (.obj o)) => .get fun S => match S[o]? with
    | some (.fd cs sp lf tn) => k o S cs sp lf tn
    | _ => .bad
  | _ => .bad
def eFget (i : Nat) (key : Str) : Ev → M D := fun ρ => getFd ρ i fun o S cs sp lf tn => fdGet key cs sp lf tn
def sFput (i : Nat) (key : Str) (m : Ev → M D) : SM := fun ρ => m ρ >>= fun d => getFd ρ i fun o S cs sp lf tn => match d with
  | .int z => match fdSet key z cs sp lf tn with
    | some x => .put (S.set o x) (.ret (.nx ρ))
    | none => .bad
  | _ => .bad
theorem get_fd {α : Type} {ρ : Ev} {i : Nat} {k : Nat → List OS → List Int → Int → Int → Int → M α} {S : List OS} {Q : α → List OS → Prop} {E : Ex → List OS → Prop} (h : wp (getFd ρ i k) S Q E) : ∃ o cs sp lf tn, ρ[i]? = some (.v (.obj o)) ∧ S[o]? = some (.fd cs sp lf tn) ∧ wp (k o S cs sp lf tn) S Q E := by
  unfold getFd at h
  split at h
  · rename_i o e
    have h : wp (match S[o]? with | some (.fd cs sp lf tn) => k o S cs sp lf tn | _ => .bad) S Q E := h
    split at h
    · rename_i cs sp lf tn e2
      exact ⟨o, cs, sp, lf, tn, e, e2, h⟩
    · exact h.elim
  · exact h.elim
theorem fd_at {K : PySem.W.Frag} {S : List OS} {g : Gw} {H : Hp} {L : Addr → Prop} {σ : L2.St} {ρ : Ev} {i o : Nat} {cs : List Int} {sp lf tn : Int} (ok : StOk K S g H) (en : EnvOk K L g H σ ρ) (h1 : ρ[i]? = some (.v (.obj o))) (h2 : S[o]? = some (.fd cs sp lf tn)) :
    ∃ a c, σ[i]? = some (some (.ref a)) ∧ g.θ[o]? = some a ∧ H a = some (.dK (feedKVs c sp lf tn)) ∧ g.F c = some (.lst (cs.map V.int)) := by
  obtain ⟨sv, e1, v, rfl, r⟩ := slot_of en h1
  cases r with
  | obj e =>
    obtain ⟨c, q1, q2⟩ := ok.obj _ _ _ e h2
    exact ⟨_, c, e1, e, q1, q2⟩
theorem intsL {K : PySem.W.Frag} {F : Hp} {θ : List Addr} : ∀ cs : List Int, RepL K F θ (cs.map V.int) (cs.map D.int)
  | [] => .nil
  | c :: cs => .cons (.int c) (intsL cs)
theorem kne_of {a b : Str} {v : V} (h : a ≠ b) : ¬ ((Sum.inr a : Key), v).1 = (Sum.inr b : Key) := fun e => h (Sum.inr.inj e)
section
variable {X : Cx} {E : XK} {g0 : Gw} {H0 : Hp} {ma : Ev → M D} {x : Str} {key : Str} {px kp pos pos' : Pos} {kk : Nat} {value : Expr}
theorem re_fget (i : Nat) (hu : X.A.units + 65 < cLine) (hN : X.N[i]? = some x := by rfl) (hv : Vis X.env.scope x := by first | exact Or.inl rfl | exact Or.inr (Or.inl rfl) | exact Or.inr (Or.inr rfl)) (hd : (x == ("__debug__" : Str)) = false := by decide)
    (hcd : (x == ("__classdict__" : Str)) = false := by decide) (hs : NoSl (.Constant (.str key) kk kp) := by exact fun _ _ => rfl) : RE X E (.Subscript (.Name x px) (.Constant (.str key) kk kp) pos) (eFget i key) := by
  refine pe_weak (pe_dget (by omega) (pe_var hN hv hd hcd) pe_str hs) fun σ H Q ⟨g, S, ρ, L, ok, en, h⟩ => ?_
  obtain ⟨o, cs, sp, lf, tn, h1, h2, h⟩ := get_fd h
  obtain ⟨a, c, e1, e2, hH, hF⟩ := fd_at ok en h1 h2
  refine ⟨_, e1, a, ?_⟩
  have G := DGet.k (k := .inr key) hH
  have go : ∀ (v : V) (d : D), valV (feedKVs c sp lf tn) (.inr key) = some v → Rep X.K g.F g.θ v d → fdGet key cs sp lf tn = .ret d → ∃ v, (V.ref a = .ref a) ∧ DGet H a (.str key) (some v) ∧ Q v H := fun v d ev r er => by
    rw [er] at h
    exact ⟨v, rfl, by rw [← ev]; exact G, h g H v .refl ok r⟩
  unfold fdGet at h go
  by_cases k1 : key = "cells"
  · subst k1; exact go (.ref c) _ (by unfold feedKVs; exact valV_pos rfl) (.lst hF (intsL cs)) (if_pos rfl)
  rw [if_neg k1] at h go
  by_cases k2 : key = "spot"
  · subst k2; exact go (.int sp) _ (by unfold feedKVs; rw [valV_neg (kne_of (by decide))]; exact valV_pos rfl) (.int _) (if_pos rfl)
  rw [if_neg k2] at h go
  by_cases k3 : key = "left"
  · subst k3; exact go (.int lf) _ (by unfold feedKVs; rw [valV_neg (kne_of (by decide)), valV_neg (kne_of (by decide))]; exact valV_pos rfl) (.int _) (if_pos rfl)
  rw [if_neg k3] at h go
  by_cases k4 : key = "turns"
  · subst k4; exact go (.int tn) _ (by unfold feedKVs; rw [valV_neg (kne_of (by decide)), valV_neg (kne_of (by decide)), valV_neg (kne_of (by decide))]; exact valV_pos rfl) (.int _) (if_pos rfl)
  rw [if_neg k4] at h
  exact h.elim
theorem fd_put {K : PySem.W.Frag} {S : List OS} {g : Gw} {H : Hp} {o : Nat} {a : Addr} {x : OS} {u u' : HO} (ok : StOk K S g H) (e : g.θ[o]? = some a) (hu : H a = some u) (hx : OSOk K g (upd H a u') a x) : StOk K (S.set o x) g (upd H a u') ∧ Grow g H g (upd H a u') := by
  have hm : a ∈ g.θ := List.mem_of_getElem? e
  refine ⟨⟨fun b y h => ?_, ok.mt, by rw [List.length_set]; exact ok.len, ok.nd, fun n b y h1 h2 => ?_⟩, ⟨fun b h => ?_, fun b y h hn => ?_, ⟨[], by simp, by simp⟩, fun _ _ h => h, fun _ _ h => .inl h⟩⟩
  · rw [upd_ne fun q => by rw [q, ok.mt a hm] at h; cases h]; exact ok.sub _ _ h
  · by_cases hn : o = n
    · subst hn
      have hb : b = a := Option.some.inj (h1.symm.trans e)
      subst hb
      rw [List.getElem?_set_self (by have := (List.getElem?_eq_some_iff.mp h2).1; simpa using this)] at h2
      cases h2
      exact hx
    · rw [List.getElem?_set_ne hn] at h2
      have hb : b ≠ a := fun q => by
        subst q
        obtain ⟨l1, q1⟩ := List.getElem?_eq_some_iff.mp e
        obtain ⟨l2, q2⟩ := List.getElem?_eq_some_iff.mp h1
        exact hn ((List.getElem_inj ok.nd).mp (q1.trans q2.symm))
      exact (ok.obj n b y h1 h2).mono (upd_ne hb) fun _ _ z => z
  · by_cases q : b = a
    · subst q; rw [upd_same] at h; cases h
    · rw [upd_ne q] at h; exact h
  · rw [upd_ne fun q => hn (by rw [q]; exact hm)]; exact h
theorem fdSet_put {key : Str} {z : Int} {cs : List Int} {sp lf tn : Int} {c : Addr} {x : OS} (h : fdSet key z cs sp lf tn = some x) : ∃ sp' lf' tn', putK (feedKVs c sp lf tn) (.inr key) (.int z) = feedKVs c sp' lf' tn' ∧ x = .fd cs sp' lf' tn' := by
  unfold fdSet at h
  by_cases k2 : key = "spot"
  · rw [if_pos k2] at h; cases h; subst k2; exact ⟨z, lf, tn, by rfl, rfl⟩
  rw [if_neg k2] at h
  by_cases k3 : key = "left"
  · rw [if_pos k3] at h; cases h; subst k3; exact ⟨sp, z, tn, by rfl, rfl⟩
  rw [if_neg k3] at h
  by_cases k4 : key = "turns"
  · rw [if_pos k4] at h; cases h; subst k4; exact ⟨sp, lf, z, by rfl, rfl⟩
  rw [if_neg k4] at h; cases h
theorem rs_fput (i : Nat) (hu : X.A.units + 65 < cLine) (ha : RE X E value ma) (hN : X.N[i]? = some x := by rfl) (hv : Vis X.env.scope x := by first | exact Or.inl rfl | exact Or.inr (Or.inl rfl) | exact Or.inr (Or.inr rfl)) (hd : (x == ("__debug__" : Str)) = false := by decide)
    (hcd : (x == ("__classdict__" : Str)) = false := by decide) (hs : swapsWith value (some (.Subscript (.Name x px) (.Constant (.str key) kk kp) pos')) pos.line X.env = pure false := by rfl) :
    RS X g0 H0 E (.Assign [.Subscript (.Name x px) (.Constant (.str key) kk kp) pos'] value pos) (sFput i key ma) := by
  refine ps_weak (ps_dput (by omega) (pe_var hN hv hd hcd) pe_str ha hs) fun W σ H h => to_e (k := fun d ρ => getFd ρ i fun o S cs sp lf tn => match d with
    | .int z => match fdSet key z cs sp lf tn with
      | some x => .put (S.set o x) (.ret (.nx ρ))
      | none => .bad
    | _ => .bad) (fun _ _ _ z => z) (fun g S ρ d v H' gr ok en r zz => ?_) h
  obtain ⟨o, cs, sp, lf, tn, h1, h2, h⟩ := get_fd zz
  obtain ⟨a, c, e1, e2, hH, hF⟩ := fd_at ok en h1 h2
  cases d with
  | int z =>
    cases r
    refine ⟨_, e1, a, _, rfl, DPut.k (k := .inr key) hH (by show 4 < sizeLine; decide), ?_⟩
    have h : wp (match fdSet key z cs sp lf tn with
      | some x => .put (S.set o x) (.ret (.nx ρ))
      | none => .bad) S (CP X.K g0 H0 g W) (XP X.K X.mg g0 H0 E) := h
    cases q : fdSet key z cs sp lf tn with
    | none => rw [q] at h; exact h.elim
    | some x' =>
      rw [q] at h
      obtain ⟨sp', lf', tn', q1, rfl⟩ := fdSet_put (c := c) q
      rw [q1]
      obtain ⟨ok2, gr2⟩ := fd_put (x := .fd cs sp' lf' tn') (u' := .dK (feedKVs c sp' lf' tn')) ok e2 hH ⟨c, upd_same, hF⟩
      exact h g _ σ (gr.trans gr2) ⟨fun _ _ z => z, fun _ _ z => z⟩ ok2 (en.grow gr2)
  | _ => exact h.elim
end
/-- the draw as it is asked for -/
def drawM : List D → M D
  | [.obj o, .int n] => .draw o n fun i => .ret (.int i)
  | _ => .bad
def DrawOk (bm : List D → M D) : Prop := ∀ (o : Nat) (n : Int) (S : List OS) (cs : List Int) (sp lf tn : Int), S[o]? = some (.fd cs sp lf tn) → 0 < n → n < 1073741824 →
  wp (bm [.obj o, .int n]) S (fun d S' => ∃ i cs sp lf tn, d = .int i ∧ 0 ≤ i ∧ i < n ∧ S' = S.set o (.fd cs sp lf tn)) (fun _ _ => False)
theorem StOk.opened {K : PySem.W.Frag} {S : List OS} {g : Gw} {H : Hp} {o : Nat} (ok : StOk K S g H) (h : S[o]? = some .feed) : ∃ cs sp lf tn, StOk K (S.set o (.fd cs sp lf tn)) g H := by
  have hl := (List.getElem?_eq_some_iff.mp h).1
  have hl2 : o < g.θ.length := by rw [← ok.len]; exact hl
  obtain ⟨c, cs, sp, lf, tn, h1, h2⟩ := ok.obj o _ _ (List.getElem?_eq_getElem hl2) h
  refine ⟨cs, sp, lf, tn, ok.sub, ok.mt, by rw [List.length_set]; exact ok.len, ok.nd, fun n b y e1 e2 => ?_⟩
  by_cases hn : o = n
  · subst hn
    rw [List.getElem?_set_self hl] at e2
    rw [List.getElem?_eq_getElem hl2] at e1
    cases e1; cases e2
    exact ⟨c, h1, h2⟩
  · rw [List.getElem?_set_ne hn] at e2
    exact ok.obj n b y e1 e2
theorem StOk.closed {K : PySem.W.Frag} {S : List OS} {g : Gw} {H : Hp} {o : Nat} {cs : List Int} {sp lf tn : Int} (h : S[o]? = some .feed) (ok : StOk K (S.set o (.fd cs sp lf tn)) g H) : StOk K S g H := by
  have hl := (List.getElem?_eq_some_iff.mp h).1
  refine ⟨ok.sub, ok.mt, by rw [← ok.len, List.length_set], ok.nd, fun n b y e1 e2 => ?_⟩
  by_cases hn : o = n
  · subst hn
    rw [h] at e2
    cases e2
    obtain ⟨c, h1, h2⟩ := ok.obj o b _ e1 (List.getElem?_set_self hl)
    exact ⟨c, cs, sp, lf, tn, h1, h2⟩
  · exact ok.obj n b y e1 (by rw [List.getElem?_set_ne hn]; exact e2)
theorem draw_sp {P : Program} {w : World} {K : PySem.W.Frag} {mg : Str → Option Value} {base : Heap} {k : Nat} {f : Addr} {fd : FuncData} {ps : List Str} {bm : List D → M D} (hb : DrawOk bm) (G : FnG P w K mg base k f fd ps (spM K mg 2 bm)) : FnG P w K mg base k f fd ps (spM K mg 2 drawM) := by
  have key : ∀ vs H Q E, spM K mg 2 drawM vs H Q E → spM K mg 2 bm vs H Q E := fun vs H Q E ⟨hl, g, S, ds, ok, r, h⟩ => by
    refine ⟨hl, ?_⟩
    match ds, h with
    | [.obj o, .int n], h =>
      obtain ⟨⟨x, h1, rfl⟩, h2, h3, h4⟩ := h
      obtain ⟨cs, sp, lf, tn, ok2⟩ := ok.opened h1
      have hl := (List.getElem?_eq_some_iff.mp h1).1
      refine ⟨g, _, _, ok2, r, wp_mono (hb o n _ cs sp lf tn (List.getElem?_set_self hl) h2 h3) (fun d S' ⟨i, cs', sp', lf', tn', e1, i0, i1, e2⟩ => ?_) fun _ _ z => z.elim⟩
      subst e1 e2
      intro g' H' v gr ok' rv
      rw [List.set_set] at ok'
      exact h4 i i0 i1 g' H' v gr (ok'.closed h1) rv
    | [], h => exact h.elim
    | [_], h => cases ‹D› <;> exact h.elim
    | a :: b :: c :: l, h => cases a <;> cases b <;> exact h.elim
    | [.non, _], h | [.bl _, _], h | [.int _, _], h | [.str _, _], h | [.tup _, _], h | [.lst _, _], h | [.dic _, _], h | [.scr _, _], h => exact h.elim
    | [.obj _, .non], h | [.obj _, .bl _], h | [.obj _, .str _], h | [.obj _, .tup _], h | [.obj _, .lst _], h | [.obj _, .dic _], h | [.obj _, .obj _], h | [.obj _, .scr _], h => exact h.elim
  exact ⟨fun vs H Q E h => G.len vs H Q E (key _ _ _ _ h), fun A outer s H args us vs Q E hr hgd e0 hbd r hsp => G.go A outer s H args us vs Q E hr hgd e0 hbd r (key _ _ _ _ hsp)⟩
theorem draw_fnc {P : Program} {w : World} {K : PySem.W.Frag} {mg : Str → Option Value} {base : Heap} {k : Nat} {x : Str} {bm : List D → M D} (hb : DrawOk bm) (G : Fnc P w K mg base k x 2 bm) : Fnc P w K mg base k x 2 drawM := by
  obtain ⟨f, fd, ps, F, r⟩ := G.ex
  exact ⟨f, fd, ps, draw_sp hb F, r⟩
end F
namespace F
open PySem PySem.Spec PyProof.Rows L2
/-! ## reckoning -/
section
variable {α β : Type} {S : List OS} {Q : α → List OS → Prop} {E : Ex → List OS → Prop}
theorem wp_ret (a : α) : wp (.ret a) S Q E = Q a S := rfl
theorem wp_err (e : Ex) : wp (.err e : M α) S Q E = E e S := rfl
theorem wp_bad : wp (.bad : M α) S Q E = False := rfl
theorem wp_put (s : List OS) (k : M α) : wp (.put s k) S Q E = wp k s Q E := rfl
theorem wp_get (k : List OS → M α) : wp (.get k) S Q E = wp (k S) S Q E := rfl
theorem wp_b {f : β → M α} {m : M β} : wp (m >>= f) S Q E = wp m S (fun a s' => wp (f a) s' Q E) E := propext wp_bind
theorem wp_if {c : Prop} [Decidable c] {m n : M α} : wp (if c then m else n) S Q E = if c then wp m S Q E else wp n S Q E := by
  by_cases h : c
  · rw [if_pos h, if_pos h]
  · rw [if_neg h, if_neg h]
theorem wp_getFd {ρ : Ev} {i o : Nat} {k : Nat → List OS → List Int → Int → Int → Int → M α} {cs : List Int} {sp lf tn : Int} (e1 : ρ[i]? = some (.v (.obj o))) (e2 : S[o]? = some (.fd cs sp lf tn)) : wp (getFd ρ i k) S Q E = wp (k o S cs sp lf tn) S Q E := by
  unfold getFd
  rw [e1]
  show wp (.get _) S Q E = _
  rw [wp_get, e2]
end
theorem shL_ints : ∀ cs : List Int, D.plL (cs.map D.int) = true ∧ D.depL (cs.map D.int) = 0
  | [] => ⟨rfl, rfl⟩
  | c :: cs => by
    obtain ⟨h1, h2⟩ := shL_ints cs
    exact ⟨by simp [D.plL, D.pl, h1], by simp [D.depL, D.dep, h2]⟩
theorem sh_ints (cs : List Int) : (D.lst (cs.map D.int)).sh = true := by
  obtain ⟨h1, h2⟩ := shL_ints cs
  simp [D.sh, D.pl, D.dep, h1, h2]
theorem ne_nil_ints (cs : List Int) : neM (.lst (cs.map D.int)) (.lst []) = .ret (.bl (!cs.isEmpty)) := by
  unfold neM
  rw [if_pos (by rw [sh_ints]; simp [D.sh, D.pl, D.dep, D.plL, D.depL])]
  cases cs <;> simp [D.eqv, D.eqvL]
theorem fg_cells (cs sp lf tn) : fdGet "cells" cs sp lf tn = .ret (.lst (cs.map D.int)) := by unfold fdGet; rw [if_pos rfl]
theorem fg_spot (cs sp lf tn) : fdGet "spot" cs sp lf tn = .ret (.int sp) := by unfold fdGet; rw [if_neg (by decide), if_pos rfl]
theorem fg_left (cs sp lf tn) : fdGet "left" cs sp lf tn = .ret (.int lf) := by unfold fdGet; rw [if_neg (by decide), if_neg (by decide), if_pos rfl]
theorem fg_turns (cs sp lf tn) : fdGet "turns" cs sp lf tn = .ret (.int tn) := by unfold fdGet; rw [if_neg (by decide), if_neg (by decide), if_neg (by decide), if_pos rfl]
theorem fs_spot (z cs sp lf tn) : fdSet "spot" z cs sp lf tn = some (.fd cs z lf tn) := by unfold fdSet; rw [if_pos rfl]
theorem fs_left (z cs sp lf tn) : fdSet "left" z cs sp lf tn = some (.fd cs sp z tn) := by unfold fdSet; rw [if_neg (by decide), if_pos rfl]
theorem fs_turns (z cs sp lf tn) : fdSet "turns" z cs sp lf tn = some (.fd cs sp lf z) := by unfold fdSet; rw [if_neg (by decide), if_neg (by decide), if_pos rfl]
theorem wp_fd {α : Type} {ρ : Ev} {o : Nat} {S : List OS} {k : Nat → List OS → List Int → Int → Int → Int → M α} {cs : List Int} {sp lf tn : Int} {Q : α → List OS → Prop} {E : Ex → List OS → Prop} (hl : o < S.length) :
    wp (getFd (.v (.obj o) :: ρ) 0 k) (S.set o (.fd cs sp lf tn)) Q E = wp (k o (S.set o (.fd cs sp lf tn)) cs sp lf tn) (S.set o (.fd cs sp lf tn)) Q E :=
  wp_getFd rfl (List.getElem?_set_self hl)
theorem ix_ints (cs : List Int) (i : Int) (h0 : 0 ≤ i) (h1 : i < cs.length) : ∃ c, idxM (.lst (cs.map D.int)) (.int i) = .ret (.int c) := by
  have hl : i.toNat < (cs.map D.int).length := by rw [List.length_map]; omega
  have e : atI (cs.map D.int) i = some (.int (cs[i.toNat]'(by rw [List.length_map] at hl; exact hl))) := by
    unfold atI ixN
    rw [if_pos h0, if_pos (by rw [List.length_map]; exact h1)]
    show (cs.map D.int)[i.toNat]? = _
    rw [List.getElem?_eq_getElem hl, List.getElem_map]
  exact ⟨_, by show (match atI (cs.map D.int) i with | some x => M.ret x | none => .bad) = _; rw [e]⟩
theorem mul_mod1 (a c j : Int) (h0 : 0 < c) (h1 : c < 2 ^ 64) : mulM (.int (a.fmod c)) (.int j) = .ret (.int (a.fmod c * j)) := by
  have := Int.fmod_nonneg_of_pos a h0
  have := Int.fmod_lt_of_pos a h0
  exact if_pos (.inl ⟨by omega, by omega⟩)
theorem mul_r (i j : Int) (h0 : -(2 ^ 64) < j) (h1 : j < 2 ^ 64) : mulM (.int i) (.int j) = .ret (.int (i * j)) := if_pos (.inr ⟨h0, h1⟩)
theorem mul_l (i j : Int) (h0 : -(2 ^ 64) < i) (h1 : i < 2 ^ 64) : mulM (.int i) (.int j) = .ret (.int (i * j)) := if_pos (.inl ⟨h0, h1⟩)
theorem mod_n (i j : Int) (h : j ≠ 0) : modM (.int i) (.int j) = .ret (.int (i.fmod j)) := if_pos h
theorem fdiv_n (i j : Int) (h : j ≠ 0) (h1 : j.natAbs < 1073741824) : fdivM (.int i) (.int j) = .ret (.int (i.fdiv j)) := if_pos ⟨h, h1⟩
theorem add_i (i j : Int) : addM (.int i) (.int j) = .ret (.int (i + j)) := rfl
theorem sub_i (i j : Int) : subM (.int i) (.int j) = .ret (.int (i - j)) := rfl
theorem gt_i (i j : Int) : gtM (.int i) (.int j) = .ret (.bl (decide (j < i))) := rfl
theorem ge_i (i j : Int) : geM (.int i) (.int j) = .ret (.bl (decide (j ≤ i))) := rfl
theorem lt_i (i j : Int) : ltM (.int i) (.int j) = .ret (.bl (decide (i < j))) := rfl
theorem le_i (i j : Int) : leM (.int i) (.int j) = .ret (.bl (decide (i ≤ j))) := rfl
theorem pow_18 : powM (.int 10) (.int 18) = .ret (.int 1000000000000000000) := rfl
theorem len_l (xs : List D) : lenM (.lst xs) = .ret (.int xs.length) := rfl
theorem len_t (xs : List D) : lenM (.tup xs) = .ret (.int xs.length) := rfl
theorem asB_b (b : Bool) : asB (.bl b) = .ret b := rfl
theorem nLst_nil (ρ : Ev) : nLst aNil ρ = .ret [] := rfl
/-- how a draw ends -/
def DrQ (o : Nat) (n : Int) (S : List OS) : D → List OS → Prop := fun d S' => ∃ i cs sp lf tn, d = .int i ∧ 0 ≤ i ∧ i < n ∧ S' = S.set o (.fd cs sp lf tn)
theorem drQ {o : Nat} {n : Int} {S : List OS} (h0 : 0 < n) (z : Int) (cs : List Int) (sp lf tn : Int) : DrQ o n S (.int (z.fmod n)) (S.set o (.fd cs sp lf tn)) :=
  ⟨_, cs, sp, lf, tn, rfl, Int.fmod_nonneg_of_pos _ h0, Int.fmod_lt_of_pos _ h0, rfl⟩
theorem DrawOk.of {bm : List D → M D} (h : ∀ (o : Nat) (n : Int) (S : List OS) (cs : List Int) (sp lf tn : Int), o < S.length → 0 < n → n < 1073741824 → n ≠ 0 → n.natAbs < 1073741824 → wp (bm [.obj o, .int n]) (S.set o (.fd cs sp lf tn)) (DrQ o n S) (fun _ _ => False)) : DrawOk bm := by
  intro o n S cs sp lf tn e h0 h1
  obtain ⟨hl, e2⟩ := List.getElem?_eq_some_iff.mp e
  have hS : S.set o (.fd cs sp lf tn) = S := by rw [← e2, List.set_getElem_self]
  have q := h o n S cs sp lf tn hl h0 h1 (by omega) (by omega)
  rw [hS] at q
  exact q
theorem ne_nil0 : neM (.lst []) (.lst []) = .ret (.bl false) := ne_nil_ints []
end F
namespace F
open PySem PySem.Spec PyProof.Rows L2
section
variable {K : PySem.W.Frag} {S : List OS} {g g1 : Gw} {H H1 : Hp}
/-- a new object of the store -/
theorem StOk.addo (ok : StOk K S g H) {p : Addr} {o o' : HO} {x : OS} (hp : H p = some o) (hF : g.F p = none) (hθ : p ∉ g.θ) (hx : OSOk K ⟨g.F, g.θ ++ [p]⟩ (upd H p o') p x) : StOk K (S ++ [x]) ⟨g.F, g.θ ++ [p]⟩ (upd H p o') := by
  refine ⟨fun a y h => ?_, fun a h => ?_, by simp [ok.len], ?_, fun n a y h1 h2 => ?_⟩
  · rw [upd_ne (ne_of_none h hF)]; exact ok.sub _ _ h
  · rcases List.mem_append.mp h with h | h
    · exact ok.mt a h
    · have e : a = p := by simpa using h
      subst e; exact hF
  · refine List.nodup_append.mpr ⟨ok.nd, by simp, fun a ha b hb e => hθ ?_⟩
    have hb' : b = p := by simpa using hb
    rw [← hb', ← e]; exact ha
  · by_cases hn : n < g.θ.length
    · have h1 : (g.θ ++ [p])[n]? = some a := h1
      rw [List.getElem?_append_left hn] at h1
      rw [List.getElem?_append_left (by rw [ok.len]; exact hn)] at h2
      have hb : a ≠ p := fun e => hθ (by rw [← e]; exact List.mem_of_getElem? h1)
      exact (ok.obj n a y h1 h2).mono (upd_ne hb) fun _ _ z => z
    · have h1 : (g.θ ++ [p])[n]? = some a := h1
      rw [List.getElem?_append_right (by omega)] at h1
      rw [List.getElem?_append_right (by rw [ok.len]; omega), ok.len] at h2
      have hz : n - g.θ.length = 0 := by
        have := (List.getElem?_eq_some_iff.mp h1).1
        simpa using this
      rw [hz] at h1 h2
      cases h1; cases h2
      exact hx
end
/-! ### the feed is made -/
def eFeed (m : Ev → M (List D)) : Ev → M D := fun ρ => m ρ >>= fun ds => match intsOf ds with
  | some _ => .get fun S => .put (S ++ [.feed]) (.ret (.obj S.length))
  | none => .bad
section
variable {X : Cx} {E : XK} {a : Expr} {m : Ev → M (List D)} {pos p1 p2 p3 p4 q2 q3 q4 : Pos} {k1 k2 k3 k4 j2 j3 j4 : Nat}
theorem re_feed (ha : RN X E a m) : RE X E (.Dict [some (.Constant (.str "cells") k1 p1), some (.Constant (.str "spot") k2 p2), some (.Constant (.str "left") k3 p3), some (.Constant (.str "turns") k4 p4)] [a, .Constant (.int 0) j2 q2, .Constant (.int 0) j3 q3, .Constant (.int 0) j4 q4] pos) (eFeed m) := by
  refine pe_weak (pe_disp (pps_cons pe_str ha (pps_cons pe_str pe_int (pps_cons pe_str pe_int (pps_cons pe_str pe_int pps_nil)))) rfl rfl (by simp) (Nat.le_of_ble_eq_true rfl)) fun σ H Q ⟨g, S, ρ, L, ok, en, h⟩ p hp => ?_
  obtain ⟨ok0, gr0, hF0, hθ0⟩ := ok.made (o := .dK []) hp
  refine ⟨g, S, ρ, L, ok0, en.grow gr0, wp_mono (wp_bind.mp h) (fun ds S1 h1 g1 H1 b vs gr ok1 n1 n2 n3 n4 r => ?_) fun _ _ z => z.grow gr0⟩
  cases ei : intsOf ds with
  | none => simp only [ei] at h1; exact h1.elim
  | some ns =>
    simp only [ei] at h1
    have h1 : VP X.K g H Q (.obj S1.length) (S1 ++ [.feed]) := h1
    have evs : vs = ns.map V.int := repL_ints (by rw [intsOf_map ei] at r; exact r)
    subst evs
    have np : (upd H p (HO.dK [])) p = some (.dK []) := upd_same
    have hp1 := gr.keep p _ np hθ0
    have own := (show OwnAt g (fun _ => True) p from ⟨trivial, hF0, hθ0⟩).grow np gr
    have hbp : b ≠ p := fun e => by subst e; rw [np] at n1; cases n1
    refine ⟨hp1, feedKVs b 0 0 0, rfl, by show (4 : Nat) ≤ 15; decide, ?_⟩
    have em : mergeK [] (feedKVs b 0 0 0) = feedKVs b 0 0 0 := rfl
    rw [em]
    have okF := ok1.froze n2 n3 n4
    have hFp : (upd g1.F b (.lst (ns.map V.int))) p = none := by rw [upd_ne (Ne.symm hbp)]; exact own.2.1
    have okP := okF.addo (x := .feed) (o' := .dK (feedKVs b 0 0 0)) hp1 hFp own.2.2 ⟨b, ns, 0, 0, 0, upd_same, upd_same⟩
    have grA := gr0.trans gr
    have n1' : H b = none := by rw [upd_ne hbp] at n1; exact n1
    have gl := grA.lay (vs := ns.map V.int) n1' n3
    refine h1 ⟨upd g1.F b (.lst (ns.map V.int)), g1.θ ++ [p]⟩ _ (.ref p) ⟨fun c e => ?_, fun c o e hn => ?_, ?_, gl.fm, gl.fn⟩ okP (.obj ?_)
    · by_cases hc : c = p
      · subst hc; exact hp
      · rw [upd_ne hc] at e; exact grA.dom c e
    · rw [upd_ne fun hc => by subst hc; rw [hp] at e; cases e]; exact grA.keep c o e hn
    · obtain ⟨ext, q1, q2⟩ := gl.th
      refine ⟨ext ++ [p], by show g1.θ ++ [p] = _; rw [show g1.θ = g.θ ++ ext from q1, List.append_assoc], fun c hc => ?_⟩
      rcases List.mem_append.mp hc with hc | hc
      · exact q2 c hc
      · have e : c = p := by simpa using hc
        subst e; exact hp
    · show (g1.θ ++ [p])[S1.length]? = some p
      rw [List.getElem?_append_right (by rw [ok1.len]; exact Nat.le_refl _), ok1.len]
      simp
end
end F
namespace F
open PySem PySem.Spec PyProof.Rows L2
/-! ## the law's call -/
theorem noCX {P : Program} {w : World} {H : Hp} {s s' : Shared} {e : Value} {o : List PySem.Env} (h : L2.CX P w o H s (fun _ _ _ => False) e s') : False := by
  obtain ⟨_, _, _, _, _, _, _, _, _, _, _, _, z⟩ := h
  exact z
/-- what the script's place holds: nothing, or the frozen list -/
def scH (a : Addr) (o : Obj) (xs : List V) (t : Bool) : Hp := fun b => if b = a ∧ t = true then some (.frz o (.lst xs)) else none
theorem scH_some {a b : Addr} {o : Obj} {xs : List V} {t : Bool} {u : HO} (h : scH a o xs t b = some u) : b = a ∧ t = true ∧ u = .frz o (.lst xs) := by
  unfold scH at h
  by_cases q : b = a ∧ t = true
  · rw [if_pos q] at h; exact ⟨q.1, q.2, (Option.some.inj h).symm⟩
  · rw [if_neg q] at h; cases h
theorem scH_none {a b : Addr} {o : Obj} {xs : List V} {t : Bool} (h : b ≠ a ∨ t = false) : scH a o xs t b = none := if_neg fun q => by
  rcases h with h | h
  · exact h q.1
  · rw [h] at q; cases q.2
theorem lawG {P : Program} {w : World} {K : PySem.W.Frag} {mg mb : Str → Option Value} {k : Nat} {fa a : Addr} {x : Str} {bm : List D → M D} {s1 : Shared} {vs : List Value} {ns : List Int}
    (KX : K.In s1.heap) (hns : s1.heap.Ns mainGlobals mg) (hb : s1.heap.Ns builtinsNs mb) (hbb : ∀ x : Str, x ≠ "__name__" → mb x = bootBuiltins x) (hlim : s1.heap.NoLimit) (hg : s1.gens = #[])
    (ha : s1.heap.get? a = some { cls := .type "list", data := .seq vs.toArray }) (hi : IntsAre vs ns) (hl : ns.length ≤ sizeLine) (hr : Room k callerA)
    (F : ∀ base : Heap, K.In base → base.Ns mainGlobals mg → Fnc P w K mg base k x 1 bm) (hmg : mg x = some (.ref fa)) (hw : wp (bm [.scr ns]) [] (fun d _ => d = .bl true) (fun _ _ => False)) :
    codeAny (model P w) callerA (.call (.ref fa) ⟨[.ref a], []⟩) (fun r s' => r = .ok (.ret (.bool true)) ∧ OldK s1.heap s'.heap ∧ s'.os = s1.os ∧ AllBare s'.gens) s1 := by
  have rv := vals_ints hi
  let ob : Obj := { cls := .type "list", data := .seq vs.toArray }
  have go : ∀ t : Bool, (t = true → K.lookup a = none) → SqL K (scH a ob (ns.map V.int) t) a (ns.map V.int) → codeAny (model P w) callerA (.call (.ref fa) ⟨[.ref a], []⟩) (fun r s' => r = .ok (.ret (.bool true)) ∧ OldK s1.heap s'.heap ∧ s'.os = s1.os ∧ AllBare s'.gens) s1 := by
    intro t ht hS
    generalize hH : scH a ob (ns.map V.int) t = H at hS
    have hA : ∀ b u, H b = some u → b = a ∧ t = true ∧ u = .frz ob (.lst (ns.map V.int)) := fun b u e => by rw [← hH] at e; exact scH_some e
    have hN : ∀ b, b ≠ a → H b = none := fun b n => by rw [← hH]; exact scH_none (.inl n)
    have see : ∀ {b : Addr} {o : Obj}, s1.heap.get? b = some o → H b = none → (hidT s1.heap H).get? b = some o := fun e n => hidT_get e n
    have dictN : ∀ {b : Addr} {o : Obj} {es : Array DictEntry} {ep : Nat}, s1.heap.get? b = some o → o.data = .dict es ep → H b = none := fun {b o es ep} e d => hN b fun q => by
      subst q
      rw [ha] at e
      cases e
      exact absurd (show Data.seq vs.toArray _ = Data.dict es ep from d) (by simp)
    have nsK : ∀ {b : Addr} {m : Str → Option Value}, s1.heap.Ns b m → (hidT s1.heap H).Ns b m := fun {b m} ⟨o, es, ep, e, d, r⟩ => ⟨o, es, ep, see e (dictN e d), d, r⟩
    have hKb : K.In (hidT s1.heap H) := fun b o e => see (KX b o e) (by
      cases q : H b with
      | none => rfl
      | some u =>
        obtain ⟨e1, e2, _⟩ := hA b u q
        subst e1
        rw [ht e2] at e; cases e)
    have hok : HOk P w H s1.heap := fun b u z => by
      obtain ⟨e1, _, e3⟩ := hA b u z
      subst e1 e3
      exact ⟨ha, by rw [List.length_map]; exact hl, vs, _, rv, ha⟩
    have hM : Mod K mg (hidT s1.heap H) := ⟨hKb, nsK hns, ⟨mb, nsK hb, hbb⟩, let ⟨mc, h1, h2⟩ := hlim; ⟨mc, nsK h1, h2⟩⟩
    have e0 : Env0 P w K mg (hidT s1.heap H) callerA [] s1 H := ⟨rfl, hM, fun b o e => of_hidT e, Nat.le_of_eq (hidT_size _ _), trivial, fun b hb => absurd (show b ∈ ([] : List Addr) from hb) (by simp), hok, .of_eq hg⟩
    obtain ⟨f, fd, ps, G, hm, hk, hbi, hn1⟩ := (F _ hKb (nsK hns)).ex
    have ef : f = fa := by rw [hm] at hmg; injection hmg with z; injection z
    subst ef
    have hbd : BindsTo s1 fd ⟨[.ref a], []⟩ (ps.zip [.ref a]) := by
      have z := hbi s1 [.ref a] KX (by rw [hn1]; rfl)
      rw [List.append_nil] at z; exact z
    have hsp : spM K mg 1 bm [.ref a] H (fun v _ => v = .bl true) (fun _ _ _ => False) := by
      refine ⟨rfl, ⟨H, []⟩, [], [.scr ns], ⟨fun _ _ z => z, fun _ z => (nomatch z), rfl, List.nodup_nil, fun n b y z _ => (nomatch z)⟩, .cons (.scr hS) .nil, wp_mono hw (fun d S e => ?_) fun _ _ z => z.elim⟩
      subst e
      intro g' H' v _ _ r
      cases r
      rfl
    refine codeAny_mono (G.go callerA [] s1 H ⟨[.ref a], []⟩ [.ref a] [.ref a] _ _ hr rfl e0 hbd (.cons rfl .nil) hsp) fun r s' h => ?_
    match r, h with
    | .error e, h => exact (noCX h).elim
    | .ok .next, h => exact False.elim h
    | .ok .brk, h => exact False.elim h
    | .ok .cont, h => exact False.elim h
    | .ok (.ret u), h =>
      obtain ⟨v, H', os, bare, un, hok', r', q⟩ := h
      have q' : v = .bl true := q
      subst q'
      obtain rfl : u = Value.bool true := r'
      refine ⟨rfl, OldK.of_keep fun b o e => ?_, os, bare⟩
      cases q : H b with
      | none => exact un.keep b o e q (by intro z; exact absurd (show b ∈ ([] : List Addr) from z) (by simp)) (by simp)
      | some u =>
        obtain ⟨e1, _, e3⟩ := hA b u q
        subst e3
        have z2 := un.frzs b ob _ q
        obtain ⟨w2, _⟩ := hok' b _ z2
        obtain ⟨w1, _⟩ := hok b _ q
        rw [e] at w1; cases w1
        exact w2
  cases hk : K.lookup a with
  | some o =>
    have e := KX a o hk
    rw [ha] at e
    cases e
    exact go false (fun z => nomatch z) (.inr ⟨_, vs.toArray, _, hk, rfl, rfl, rfl, by rw [List.size_toArray, hi.length]; exact hl, by simpa using rv⟩)
  | none => exact go true (fun _ => hk) (.inl (.inr ⟨ob, if_pos ⟨rfl, rfl⟩⟩))
/-- the walk that the head asks for -/
theorem law_walk {l : PySem.W.OpenLaw} {n k : Nat} {q : Program} {loose : List Str} {XP : (Str → Option Value) → Heap → Prop} {d : DefRec} {fa : List He.Fa} {fn : List He.DefD} {ex : PySem.W.Frag → Bool} {bm : List D → M D} {Y : World → Heap → Prop}
    (hn : l.most = some n) (hn2 : n ≤ sizeLine) (hdf : d.params.defaults = []) (hr : Room k callerA) (hY : ∀ w h, Y w h → ∃ K : PySem.W.Frag, K.In h ∧ He.SaysD fa fn K ∧ ex K = true)
    (F : ∀ {w : World} {K : PySem.W.Frag} {mg : Str → Option Value} {base : Heap}, Gd fa fn ex K mg base → Fnc l.prog w K mg base k d.name 1 bm)
    (hw : ∀ ns : List Int, ns.length ≤ n → wp (bm [.scr ns]) [] (fun d _ => d = .bl true) (fun _ _ => False)) :
    PySem.W.WalkO q loose XP Y l.row.toRowW d [] (fun f vs => PySem.call f vs) := by
  refine Att.attach_callB hn hdf fun w s0 s1 mg mb fa' o pm cd doc a vs ns G Yw ho hd hcd hmg hobj hints hlen hbits hg => ?_
  obtain ⟨K, KX, hs, he⟩ := hY w _ Yw
  exact lawG KX G.T.g G.T.b G.T.builtins G.T.nolimit hg hobj hints (Nat.le_trans hlen hn2) hr (fun base hK hN => F ⟨hs, he, hK, hN⟩) hmg (hw ns hlen)
end F
namespace Hd
open PySem PySem.Spec PyProof.Rows L2
def top (i : Nat) : Stmt := PySem.Challenge.pw_surelywrong_k01_kinds_told.main.body.getD i (.Pass ⟨0, 0, 0, 0⟩)
abbrev s_is_integer : Stmt := top 4
def d_is_integer : He.DefD := ⟨("is_integer", none), "is_integer", "is_integer", defArgs s_is_integer, defBody s_is_integer, defScope s_is_integer, [], []⟩
abbrev s_is_number : Stmt := top 5
def d_is_number : He.DefD := ⟨("is_number", none), "is_number", "is_number", defArgs s_is_number, defBody s_is_number, defScope s_is_number, [], []⟩
abbrev s_is_name : Stmt := top 6
def d_is_name : He.DefD := ⟨("is_name", none), "is_name", "is_name", defArgs s_is_name, defBody s_is_name, defScope s_is_name, [], []⟩
abbrev s_is_kind : Stmt := top 7
def d_is_kind : He.DefD := ⟨("is_kind", none), "is_kind", "is_kind", defArgs s_is_kind, defBody s_is_kind, defScope s_is_kind, [], []⟩
abbrev s_is_pair : Stmt := top 8
def d_is_pair : He.DefD := ⟨("is_pair", none), "is_pair", "is_pair", defArgs s_is_pair, defBody s_is_pair, defScope s_is_pair, [], []⟩
abbrev s_is_sort : Stmt := top 9
def d_is_sort : He.DefD := ⟨("is_sort", none), "is_sort", "is_sort", defArgs s_is_sort, defBody s_is_sort, defScope s_is_sort, [], []⟩
abbrev s_is_row : Stmt := top 10
def d_is_row : He.DefD := ⟨("is_row", none), "is_row", "is_row", defArgs s_is_row, defBody s_is_row, defScope s_is_row, [], []⟩
abbrev s_is_text : Stmt := top 11
def d_is_text : He.DefD := ⟨("is_text", none), "is_text", "is_text", defArgs s_is_text, defBody s_is_text, defScope s_is_text, [], []⟩
abbrev s_is_gaps : Stmt := top 12
def d_is_gaps : He.DefD := ⟨("is_gaps", none), "is_gaps", "is_gaps", defArgs s_is_gaps, defBody s_is_gaps, defScope s_is_gaps, [], []⟩
abbrev s_is_complaint : Stmt := top 13
def d_is_complaint : He.DefD := ⟨("is_complaint", none), "is_complaint", "is_complaint", defArgs s_is_complaint, defBody s_is_complaint, defScope s_is_complaint, [], []⟩
abbrev s_is_way : Stmt := top 14
def d_is_way : He.DefD := ⟨("is_way", none), "is_way", "is_way", defArgs s_is_way, defBody s_is_way, defScope s_is_way, [], []⟩
abbrev s__law_feed : Stmt := top 16
def d__law_feed : He.DefD := ⟨("_law_feed", none), "_law_feed", "_law_feed", defArgs s__law_feed, defBody s__law_feed, defScope s__law_feed, [], []⟩
abbrev s__law_draw : Stmt := top 17
def d__law_draw : He.DefD := ⟨("_law_draw", none), "_law_draw", "_law_draw", defArgs s__law_draw, defBody s__law_draw, defScope s__law_draw, [], []⟩
abbrev s__law_pick : Stmt := top 18
def d__law_pick : He.DefD := ⟨("_law_pick", none), "_law_pick", "_law_pick", defArgs s__law_pick, defBody s__law_pick, defScope s__law_pick, [], []⟩
abbrev s__law_item : Stmt := top 19
def d__law_item : He.DefD := ⟨("_law_item", none), "_law_item", "_law_item", defArgs s__law_item, defBody s__law_item, defScope s__law_item, [], []⟩
abbrev s__law_page : Stmt := top 20
def d__law_page : He.DefD := ⟨("_law_page", none), "_law_page", "_law_page", defArgs s__law_page, defBody s__law_page, defScope s__law_page, [], []⟩
abbrev s__law_is_number : Stmt := top 21
def d__law_is_number : He.DefD := ⟨("_law_is_number", none), "_law_is_number", "_law_is_number", defArgs s__law_is_number, defBody s__law_is_number, defScope s__law_is_number, [], []⟩
abbrev s__law_is_name : Stmt := top 22
def d__law_is_name : He.DefD := ⟨("_law_is_name", none), "_law_is_name", "_law_is_name", defArgs s__law_is_name, defBody s__law_is_name, defScope s__law_is_name, [], []⟩
abbrev s__law_is_kind : Stmt := top 23
def d__law_is_kind : He.DefD := ⟨("_law_is_kind", none), "_law_is_kind", "_law_is_kind", defArgs s__law_is_kind, defBody s__law_is_kind, defScope s__law_is_kind, [], []⟩
abbrev s__law_is_sort : Stmt := top 24
def d__law_is_sort : He.DefD := ⟨("_law_is_sort", none), "_law_is_sort", "_law_is_sort", defArgs s__law_is_sort, defBody s__law_is_sort, defScope s__law_is_sort, [], []⟩
abbrev s__law_is_item : Stmt := top 25
def d__law_is_item : He.DefD := ⟨("_law_is_item", none), "_law_is_item", "_law_is_item", defArgs s__law_is_item, defBody s__law_is_item, defScope s__law_is_item, [], []⟩
abbrev s__law_is_page : Stmt := top 26
def d__law_is_page : He.DefD := ⟨("_law_is_page", none), "_law_is_page", "_law_is_page", defArgs s__law_is_page, defBody s__law_is_page, defScope s__law_is_page, [], []⟩
abbrev s__law_is_set : Stmt := top 27
def d__law_is_set : He.DefD := ⟨("_law_is_set", none), "_law_is_set", "_law_is_set", defArgs s__law_is_set, defBody s__law_is_set, defScope s__law_is_set, [], []⟩
abbrev s__law_is_sign : Stmt := top 28
def d__law_is_sign : He.DefD := ⟨("_law_is_sign", none), "_law_is_sign", "_law_is_sign", defArgs s__law_is_sign, defBody s__law_is_sign, defScope s__law_is_sign, [], []⟩
abbrev s__law_is_put : Stmt := top 29
def d__law_is_put : He.DefD := ⟨("_law_is_put", none), "_law_is_put", "_law_is_put", defArgs s__law_is_put, defBody s__law_is_put, defScope s__law_is_put, [], []⟩
abbrev s__law_strange : Stmt := top 30
def d__law_strange : He.DefD := ⟨("_law_strange", none), "_law_strange", "_law_strange", defArgs s__law_strange, defBody s__law_strange, defScope s__law_strange, [], []⟩
abbrev s__law_bent : Stmt := top 31
def d__law_bent : He.DefD := ⟨("_law_bent", none), "_law_bent", "_law_bent", defArgs s__law_bent, defBody s__law_bent, defScope s__law_bent, [], []⟩
abbrev s__law_due : Stmt := top 32
def d__law_due : He.DefD := ⟨("_law_due", none), "_law_due", "_law_due", defArgs s__law_due, defBody s__law_due, defScope s__law_due, [], []⟩
abbrev s__law_told : Stmt := top 33
def d__law_told : He.DefD := ⟨("_law_told", none), "_law_told", "_law_told", defArgs s__law_told, defBody s__law_told, defScope s__law_told, [], []⟩
abbrev s__law_named : Stmt := top 34
def d__law_named : He.DefD := ⟨("_law_named", none), "_law_named", "_law_named", defArgs s__law_named, defBody s__law_named, defScope s__law_named, [], []⟩
abbrev s__law_put : Stmt := top 35
def d__law_put : He.DefD := ⟨("_law_put", none), "_law_put", "_law_put", defArgs s__law_put, defBody s__law_put, defScope s__law_put, [], []⟩
abbrev s_law : Stmt := top 36
def d_law : He.DefD := ⟨("law", none), "law", "law", defArgs s_law, defBody s_law, defScope s_law, [], []⟩
def fn : List He.DefD := [d_is_integer, d_is_number, d_is_name, d_is_kind, d_is_pair, d_is_sort, d_is_row, d_is_text, d_is_gaps, d_is_complaint, d_is_way, d__law_feed, d__law_draw, d__law_pick, d__law_item, d__law_page, d__law_is_number, d__law_is_name, d__law_is_kind, d__law_is_sort, d__law_is_item, d__law_is_page, d__law_is_set, d__law_is_sign, d__law_is_put, d__law_strange, d__law_bent, d__law_due, d__law_told, d__law_named, d__law_put, d_law]
def fa : List He.Fa := [.glo "is_integer", .glo "is_number", .glo "is_name", .glo "is_kind", .glo "is_pair", .glo "is_sort", .glo "is_row", .glo "is_text", .glo "is_gaps", .glo "is_complaint", .glo "is_way", .glo "_law_feed", .glo "_law_draw", .glo "_law_pick", .glo "_law_item", .glo "_law_page", .glo "_law_is_number", .glo "_law_is_name", .glo "_law_is_kind", .glo "_law_is_sort", .glo "_law_is_item", .glo "_law_is_page", .glo "_law_is_set", .glo "_law_is_sign", .glo "_law_is_put", .glo "_law_strange", .glo "_law_bent", .glo "_law_due", .glo "_law_told", .glo "_law_named", .glo "_law_put", .glo "law", .free "len", .free "isinstance", .free "all", .free "zip", .free "tuple", .free "list", .free "sorted", .free "set", .free "range", .free "int", .free "str", .free "bool", .free "repr", .str "LETTERS" "abcdefghijklmnopqrstuvwxyz", .int "MOST_LETTERS" 8, .glo "COMPLAINT_WORDS"]
def loose : List Str := [("LETTERS" : Str), ("MOST_LETTERS" : Str), ("COMPLAINT_WORDS" : Str), ("is_integer" : Str), ("is_number" : Str), ("is_name" : Str), ("is_kind" : Str), ("is_pair" : Str), ("is_sort" : Str), ("is_row" : Str), ("is_text" : Str), ("is_gaps" : Str), ("is_complaint" : Str), ("is_way" : Str), ("_law_feed" : Str), ("_law_draw" : Str), ("_law_pick" : Str), ("_law_item" : Str), ("_law_page" : Str), ("_law_is_number" : Str), ("_law_is_name" : Str), ("_law_is_kind" : Str), ("_law_is_sort" : Str), ("_law_is_item" : Str), ("_law_is_page" : Str), ("_law_is_set" : Str), ("_law_is_sign" : Str), ("_law_is_put" : Str), ("_law_strange" : Str), ("_law_bent" : Str), ("_law_due" : Str), ("_law_told" : Str), ("_law_named" : Str), ("_law_put" : Str)]
def ex (K : PySem.W.Frag) : Bool := He.tupB K "COMPLAINT_WORDS" [.str "use", .str "unused", .str "twice", .str "stop", .str "give", .str "after", .str "falls", .str "open", .str "end"] && (true)
end Hd
namespace G
open PySem PySem.Spec PyProof.Rows L2 F
variable {P : Program} {w : World} {K : PySem.W.Frag} {mg : Str → Option Value} {base : Heap}

def b__law_draw : SM := (sSeq (sFput 0 "turns" (eBin addM (eFget 0 "turns") (eC (.int 1)))) (sSeq (sIf (tV (eBin gtM (eFget 0 "left") (eC (.int 0)))) (sSeq (sSet 6 (eBin modM (eCL (L1 intM) (aCons (eFget 0 "left") aNil)) (eVar 1))) (sSeq (sFput 0 "left" (eBin fdivM (eFget 0 "left") (eVar 1))) (sRet (eVar 6)))) sNil) (sSeq (sPar 2 3 (aCons (eFget 0 "cells") (aCons (eFget 0 "spot") aNil))) (sSeq (sFput 0 "spot" (eBin addM (eVar 3) (eC (.int 1)))) (sSeq (sSet 4 (eIf (tV (eBin neM (eVar 2) (eN (nLst aNil)))) (eBin idxM (eVar 2) (eBin modM (eCL (L1 intM) (aCons (eVar 3) aNil)) (eCL (L1 lenM) (aCons (eVar 2) aNil)))) (eC (.int 90501)))) (sSeq (sIf (tAndM (tV (eBin geM (eVar 4) (eBin powM (eC (.int 10)) (eC (.int 18))))) (tV (eBin ltM (eVar 3) (eCL (L1 lenM) (aCons (eVar 2) aNil))))) (sSeq (sFput 0 "left" (eBin fdivM (eVar 4) (eVar 1))) (sRet (eBin modM (eCL (L1 intM) (aCons (eVar 4) aNil)) (eVar 1)))) sNil) (sSeq (sSet 5 (eBin modM (eCL (L1 intM) (aCons (eBin addM (eBin addM (eBin mulM (eBin modM (eCL (L1 intM) (aCons (eVar 4) aNil)) (eC (.int 1000000409))) (eC (.int 2311))) (eBin mulM (eC (.int 92821)) (eFget 0 "turns"))) (eC (.int 11))) aNil)) (eC (.int 2147483629)))) (sSeq (sSet 5 (eBin modM (eCL (L1 intM) (aCons (eBin addM (eBin addM (eBin mulM (eVar 5) (eVar 5)) (eBin mulM (eC (.int 6311)) (eFget 0 "turns"))) (eC (.int 89))) aNil)) (eC (.int 2147483587)))) (sRet (eBin modM (eCL (L1 intM) (aCons (eBin fdivM (eBin modM (eCL (L1 intM) (aCons (eBin addM (eBin mulM (eVar 5) (eVar 5)) (eBin mulM (eC (.int 389)) (eVar 5))) aNil)) (eC (.int 2147483563))) (eC (.int 64))) aNil)) (eVar 1)))))))))))
def M0__law_draw : List D → M D := runB 7 b__law_draw
theorem t0__law_draw (g : Gd Hd.fa Hd.fn Hd.ex K mg base) : Fnc P w K mg base 1 "_law_draw" 2 M0__law_draw := by
  have hN : (["_law_feed_here", "_law_size", "_law_cells", "_law_spot", "_law_cell", "_law_mixed", "_law_digit"] : List Str).Nodup := by decide +kernel
  obtain ⟨fd, F⟩ := g.says.def_ 12 (d := Hd.d__law_draw) rfl
  exact fnc_of (ps := ["_law_feed_here", "_law_size"]) F (g.glo 12) rfl (fnC (N := ["_law_feed_here", "_law_size", "_law_cells", "_law_spot", "_law_cell", "_law_mixed", "_law_digit"]) F (scope_ok (by decide +kernel)) fun cdv A outer s g0 H E d gd => (rss_cons (rs_fput 0 d.units (re_bin o_add (re_fget 0 d.units) re_int)) (rss_cons (rs_if (rt_cmp c_gt (re_fget 0 d.units) re_int) (rss_cons (rs_set 6 hN (re_bin o_mod (re_callTy b_int rfl (g.free 41) (by decide +kernel) (ra_cons (re_fget 0 d.units) ra_nil)) (re_var 1))) (rss_cons (rs_fput 0 d.units (re_bin o_fdiv (re_fget 0 d.units) (re_var 1))) (rss_one (rs_ret (re_var 6))))) rss_nil) (rss_cons (rs_par 2 3 rfl hN (ra_cons (re_fget 0 d.units) (ra_cons (re_fget 0 d.units) ra_nil))) (rss_cons (rs_fput 0 d.units (re_bin o_add (re_var 3) re_int)) (rss_cons (rs_set 4 hN (re_if (rt_cmp (c_ne d.u64) (re_var 2) (re_n (rn_lst ra_nil))) (re_ix (re_var 2) (re_bin o_mod (re_callTy b_int rfl (g.free 41) (by decide +kernel) (ra_cons (re_var 3) ra_nil)) (re_callB b_len rfl (g.free 32) (by decide +kernel) (ra_cons (re_var 2) ra_nil)))) re_int)) (rss_cons (rs_if (RW.rt (rw_and (rt_cmp c_ge (re_var 4) (re_bin o_pow re_int re_int)) (rw_and1 (rt_cmp c_lt (re_var 3) (re_callB b_len rfl (g.free 32) (by decide +kernel) (ra_cons (re_var 2) ra_nil)))))) (rss_cons (rs_fput 0 d.units (re_bin o_fdiv (re_var 4) (re_var 1))) (rss_one (rs_ret (re_bin o_mod (re_callTy b_int rfl (g.free 41) (by decide +kernel) (ra_cons (re_var 4) ra_nil)) (re_var 1))))) rss_nil) (rss_cons (rs_set 5 hN (re_bin o_mod (re_callTy b_int rfl (g.free 41) (by decide +kernel) (ra_cons (re_bin o_add (re_bin o_add (re_bin o_mul (re_bin o_mod (re_callTy b_int rfl (g.free 41) (by decide +kernel) (ra_cons (re_var 4) ra_nil)) re_int) re_int) (re_bin o_mul re_int (re_fget 0 d.units))) re_int) ra_nil)) re_int)) (rss_cons (rs_set 5 hN (re_bin o_mod (re_callTy b_int rfl (g.free 41) (by decide +kernel) (ra_cons (re_bin o_add (re_bin o_add (re_bin o_mul (re_var 5) (re_var 5)) (re_bin o_mul re_int (re_fget 0 d.units))) re_int) ra_nil)) re_int)) (rss_one (rs_ret (re_bin o_mod (re_callTy b_int rfl (g.free 41) (by decide +kernel) (ra_cons (re_bin o_fdiv (re_bin o_mod (re_callTy b_int rfl (g.free 41) (by decide +kernel) (ra_cons (re_bin o_add (re_bin o_mul (re_var 5) (re_var 5)) (re_bin o_mul re_int (re_var 5))) ra_nil)) re_int) re_int) ra_nil)) (re_var 1))))))))))))) (fun kV doc pm an cdv ct us h => by
    match us, h with
    | [u0, u1], _ => rfl)
end G
namespace G
open PySem PySem.Spec PyProof.Rows L2 F
theorem draw_ok : DrawOk M0__law_draw := DrawOk.of fun o n S cs sp lf tn hl h0 h1 hn hn2 => by
  unfold M0__law_draw runB startE b__law_draw
  simp only [List.map_cons, List.map_nil, List.length_cons, List.length_nil, List.replicate, List.cons_append, List.nil_append]
  have step : ∀ (c : Int) (cs : List Int), True := fun _ _ => trivial
  by_cases hlf : 0 < lf
  · simp [sSeq, sFput, eBin, eFget, eC, wp_b, wp_ret, wp_put, wp_fd hl, fg_cells, fg_spot, fg_left, fg_turns, fs_spot, fs_left, fs_turns, List.set_set, add_i, sIf, tV, gt_i, asB_b, eVar, sSet, aCons, aNil, sRet, eCL, L1, intM, mod_n, fdiv_n, hlf, hn, hn2]
    exact drQ h0 ..
  · have hc : cs = [] ∨ cs ≠ [] := Classical.em _
    rcases hc with hc | hc
    · subst hc
      by_cases hs : sp < 0 <;>
      simp [sSeq, sFput, eBin, eFget, eC, wp_b, wp_ret, wp_put, wp_fd hl, fg_cells, fg_spot, fg_left, fg_turns, fs_spot, fs_left, fs_turns, List.set_set, add_i, sIf, tV, gt_i, asB_b, eVar, sSet, sPar, sNil, aCons, aNil, sRet, eCL, L1, intM, mod_n, fdiv_n, hlf, hn, hn2, eIf, eN, nLst_nil, ne_nil0, tAndM, ge_i, pow_18, len_l, lt_i, mul_r, mul_l, mul_mod1, hs] <;> exact drQ h0 ..
    · have hc2 : 0 < (cs.length : Int) := by cases cs <;> simp at *
      have hc3 : cs.isEmpty = false := by cases cs <;> simp at *
      obtain ⟨c, ec⟩ := ix_ints cs (sp.fmod cs.length) (Int.fmod_nonneg_of_pos _ hc2) (Int.fmod_lt_of_pos _ hc2)
      by_cases hb : 1000000000000000000 ≤ c <;> by_cases hs : sp < cs.length <;>
      simp [sSeq, sFput, eBin, eFget, eC, wp_b, wp_ret, wp_put, wp_fd hl, fg_cells, fg_spot, fg_left, fg_turns, fs_spot, fs_left, fs_turns, List.set_set, add_i, sIf, tV, gt_i, asB_b, eVar, sSet, sPar, sNil, aCons, aNil, sRet, eCL, L1, intM, mod_n, fdiv_n, hlf, hn, hn2, eIf, eN, nLst_nil, ne_nil_ints cs, hc3, tAndM, ge_i, pow_18, len_l, lt_i, mul_r, mul_l, mul_mod1, hs, hb, ec, hc] <;> exact drQ h0 ..
def M__law_draw : List D → M D := drawM
variable {P : Program} {w : World} {K : PySem.W.Frag} {mg : Str → Option Value} {base : Heap}
theorem t__law_draw (g : Gd Hd.fa Hd.fn Hd.ex K mg base) : Fnc P w K mg base 1 "_law_draw" 2 M__law_draw := draw_fnc draw_ok (t0__law_draw g)
end G
namespace G
open PySem PySem.Spec PyProof.Rows L2 F
variable {P : Program} {w : World} {K : PySem.W.Frag} {mg : Str → Option Value} {base : Heap}

theorem tab_COMPLAINT_WORDS (g : Gd Hd.fa Hd.fn Hd.ex K mg base) : He.tupB K "COMPLAINT_WORDS" [.str "use", .str "unused", .str "twice", .str "stop", .str "give", .str "after", .str "falls", .str "open", .str "end"] = true := (He.ba g.ex).1
def b_is_integer : SM := (sRet (eAnd (eUn (isiM "int") (eVar 0)) (eNot (eUn (isiM "bool") (eVar 0)))))
def M_is_integer : List D → M D := runB 1 b_is_integer
theorem t_is_integer (g : Gd Hd.fa Hd.fn Hd.ex K mg base) : Fnc P w K mg base 1 "is_integer" 1 M_is_integer := by
  have hN : (["thing"] : List Str).Nodup := by decide +kernel
  obtain ⟨fd, F⟩ := g.says.def_ 0 (d := Hd.d_is_integer) rfl
  exact fnc_of (ps := ["thing"]) F (g.glo 0) rfl (fnC (N := ["thing"]) F (scope_ok (by decide +kernel)) fun cdv A outer s g0 H E d gd => (rss_one (rs_ret (re_and (re_isi isi_int rfl (g.free 33) rfl (g.free 41) (by decide +kernel) (re_var 0)) (re_one (re_not (re_isi isi_bool rfl (g.free 33) rfl (g.free 43) (by decide +kernel) (re_var 0)))))))) (fun kV doc pm an cdv ct us h => by
    match us, h with
    | [u0], _ => rfl)
theorem k_is_integer_thing (g : Gd Hd.fa Hd.fn Hd.ex K mg base) : Fnk P w K mg base 1 "is_integer" ["thing"] M_is_integer := by
  have hN : (["thing"] : List Str).Nodup := by decide +kernel
  obtain ⟨fd, F⟩ := g.says.def_ 0 (d := Hd.d_is_integer) rfl
  exact fnk_of (ps := ["thing"]) F (g.glo 0) (fnC (N := ["thing"]) F (scope_ok (by decide +kernel)) fun cdv A outer s g0 H E d gd => (rss_one (rs_ret (re_and (re_isi isi_int rfl (g.free 33) rfl (g.free 41) (by decide +kernel) (re_var 0)) (re_one (re_not (re_isi isi_bool rfl (g.free 33) rfl (g.free 43) (by decide +kernel) (re_var 0)))))))) (fun kV doc pm an cdv ct us h => by
    match us, h with
    | [u0], _ => rfl)
def b_is_number : SM := (sRet (eAnd (eF 1 M_is_integer (aCons (eVar 0) aNil)) (eBin geM (eVar 0) (eC (.int 0)))))
def M_is_number : List D → M D := runB 1 b_is_number
theorem t_is_number (g : Gd Hd.fa Hd.fn Hd.ex K mg base) : Fnc P w K mg base 2 "is_number" 1 M_is_number := by
  have hN : (["thing"] : List Str).Nodup := by decide +kernel
  obtain ⟨fd, F⟩ := g.says.def_ 1 (d := Hd.d_is_number) rfl
  exact fnc_of (ps := ["thing"]) F (g.glo 1) rfl (fnC (N := ["thing"]) F (scope_ok (by decide +kernel)) fun cdv A outer s g0 H E d gd => (rss_one (rs_ret (re_and (re_f (t_is_integer g) d.cal gd (by decide) rfl (ra_cons (re_var 0) ra_nil)) (re_one (re_cmp c_ge (re_var 0) re_int)))))) (fun kV doc pm an cdv ct us h => by
    match us, h with
    | [u0], _ => rfl)
theorem k_is_number_thing (g : Gd Hd.fa Hd.fn Hd.ex K mg base) : Fnk P w K mg base 2 "is_number" ["thing"] M_is_number := by
  have hN : (["thing"] : List Str).Nodup := by decide +kernel
  obtain ⟨fd, F⟩ := g.says.def_ 1 (d := Hd.d_is_number) rfl
  exact fnk_of (ps := ["thing"]) F (g.glo 1) (fnC (N := ["thing"]) F (scope_ok (by decide +kernel)) fun cdv A outer s g0 H E d gd => (rss_one (rs_ret (re_and (re_f (t_is_integer g) d.cal gd (by decide) rfl (ra_cons (re_var 0) ra_nil)) (re_one (re_cmp c_ge (re_var 0) re_int)))))) (fun kV doc pm an cdv ct us h => by
    match us, h with
    | [u0], _ => rfl)
def b_is_name : SM := (sSeq (sIf (tOrM (tNotM (tTru (eUn (isiM "str") (eVar 0)))) (tNotM (tV (eChain leM leM (eC (.int 1)) (eCL (L1 lenM) (aCons (eVar 0) aNil)) (eC (.int 8)))))) (sRet (eC (.bl false))) sNil) (sRet (eCL (L1 allM) (aCons (eN (nComp [1] (iAny (eVar 0)) (gN 1) tYesM (eBin (inM false) (eVar 1) (eC (.str "abcdefghijklmnopqrstuvwxyz"))))) aNil))))
def M_is_name : List D → M D := runB 2 b_is_name
theorem t_is_name (g : Gd Hd.fa Hd.fn Hd.ex K mg base) : Fnc P w K mg base 1 "is_name" 1 M_is_name := by
  have hN : (["thing", "sign"] : List Str).Nodup := by decide +kernel
  obtain ⟨t_LETTERS, h_LETTERS⟩ := He.str_ok g.kin g.ns (g.says.fact 45 rfl)
  obtain ⟨t_MOST_LETTERS, h_MOST_LETTERS⟩ := He.int_ok g.kin g.ns (g.says.fact 46 rfl)
  obtain ⟨fd, F⟩ := g.says.def_ 2 (d := Hd.d_is_name) rfl
  exact fnc_of (ps := ["thing"]) F (g.glo 2) rfl (fnC (N := ["thing", "sign"]) F (scope_ok (by decide +kernel)) fun cdv A outer s g0 H E d gd => (rss_cons (rs_if (RW.rt (rw_or (rt_not (rt_tru (re_isi isi_str rfl (g.free 33) rfl (g.free 42) (by decide +kernel) (re_var 0)))) (rw_or1 (rt_not (rt_chain c_le c_le re_int (re_callB b_len rfl (g.free 32) (by decide +kernel) (ra_cons (re_var 0) ra_nil)) (re_glob rfl h_MOST_LETTERS (v := .int _) ⟨_, rfl⟩ (fun _ _ => .int _))))))) (rss_one (rs_ret re_bl)) rss_nil) (rss_one (rs_ret (re_callB (b_all rfl) rfl (g.free 34) (by decide +kernel) (ra_cons (re_n (rn_comp [("sign", 1)] rfl hN (ri_any (re_var 0)) (blkOk_by (by kernel_rfl)) (by decide) (fun _ _ _ _ _ => (rg_name 1 hN)) (fun _ _ _ _ _ => rts_nil) (fun _ _ _ _ _ => (re_cmp (c_in d.units) (re_var 1) (re_glob rfl h_LETTERS (v := .str _) ⟨_, rfl⟩ (fun _ _ => .str _)))))) ra_nil)))))) (fun kV doc pm an cdv ct us h => by
    match us, h with
    | [u0], _ => rfl)
theorem k_is_name_thing (g : Gd Hd.fa Hd.fn Hd.ex K mg base) : Fnk P w K mg base 1 "is_name" ["thing"] M_is_name := by
  have hN : (["thing", "sign"] : List Str).Nodup := by decide +kernel
  obtain ⟨t_LETTERS, h_LETTERS⟩ := He.str_ok g.kin g.ns (g.says.fact 45 rfl)
  obtain ⟨t_MOST_LETTERS, h_MOST_LETTERS⟩ := He.int_ok g.kin g.ns (g.says.fact 46 rfl)
  obtain ⟨fd, F⟩ := g.says.def_ 2 (d := Hd.d_is_name) rfl
  exact fnk_of (ps := ["thing"]) F (g.glo 2) (fnC (N := ["thing", "sign"]) F (scope_ok (by decide +kernel)) fun cdv A outer s g0 H E d gd => (rss_cons (rs_if (RW.rt (rw_or (rt_not (rt_tru (re_isi isi_str rfl (g.free 33) rfl (g.free 42) (by decide +kernel) (re_var 0)))) (rw_or1 (rt_not (rt_chain c_le c_le re_int (re_callB b_len rfl (g.free 32) (by decide +kernel) (ra_cons (re_var 0) ra_nil)) (re_glob rfl h_MOST_LETTERS (v := .int _) ⟨_, rfl⟩ (fun _ _ => .int _))))))) (rss_one (rs_ret re_bl)) rss_nil) (rss_one (rs_ret (re_callB (b_all rfl) rfl (g.free 34) (by decide +kernel) (ra_cons (re_n (rn_comp [("sign", 1)] rfl hN (ri_any (re_var 0)) (blkOk_by (by kernel_rfl)) (by decide) (fun _ _ _ _ _ => (rg_name 1 hN)) (fun _ _ _ _ _ => rts_nil) (fun _ _ _ _ _ => (re_cmp (c_in d.units) (re_var 1) (re_glob rfl h_LETTERS (v := .str _) ⟨_, rfl⟩ (fun _ _ => .str _)))))) ra_nil)))))) (fun kV doc pm an cdv ct us h => by
    match us, h with
    | [u0], _ => rfl)
def b_is_kind : SM := (sRet (eOr (eF 1 M_is_name (aCons (eVar 0) aNil)) (eAnd (eUn (isiM "str") (eVar 0)) (eBin eqM (eVar 0) (eC (.str ""))))))
def M_is_kind : List D → M D := runB 1 b_is_kind
theorem t_is_kind (g : Gd Hd.fa Hd.fn Hd.ex K mg base) : Fnc P w K mg base 2 "is_kind" 1 M_is_kind := by
  have hN : (["thing"] : List Str).Nodup := by decide +kernel
  obtain ⟨fd, F⟩ := g.says.def_ 3 (d := Hd.d_is_kind) rfl
  exact fnc_of (ps := ["thing"]) F (g.glo 3) rfl (fnC (N := ["thing"]) F (scope_ok (by decide +kernel)) fun cdv A outer s g0 H E d gd => (rss_one (rs_ret (re_or (re_f (t_is_name g) d.cal gd (by decide) rfl (ra_cons (re_var 0) ra_nil)) (re_one (re_and (re_isi isi_str rfl (g.free 33) rfl (g.free 42) (by decide +kernel) (re_var 0)) (re_one (re_cmp (c_eq d.u64) (re_var 0) re_str)))))))) (fun kV doc pm an cdv ct us h => by
    match us, h with
    | [u0], _ => rfl)
theorem k_is_kind_thing (g : Gd Hd.fa Hd.fn Hd.ex K mg base) : Fnk P w K mg base 2 "is_kind" ["thing"] M_is_kind := by
  have hN : (["thing"] : List Str).Nodup := by decide +kernel
  obtain ⟨fd, F⟩ := g.says.def_ 3 (d := Hd.d_is_kind) rfl
  exact fnk_of (ps := ["thing"]) F (g.glo 3) (fnC (N := ["thing"]) F (scope_ok (by decide +kernel)) fun cdv A outer s g0 H E d gd => (rss_one (rs_ret (re_or (re_f (t_is_name g) d.cal gd (by decide) rfl (ra_cons (re_var 0) ra_nil)) (re_one (re_and (re_isi isi_str rfl (g.free 33) rfl (g.free 42) (by decide +kernel) (re_var 0)) (re_one (re_cmp (c_eq d.u64) (re_var 0) re_str)))))))) (fun kV doc pm an cdv ct us h => by
    match us, h with
    | [u0], _ => rfl)
def b_is_pair : SM := (sRet (eAnd (eUn (isiM "tuple") (eVar 0)) (eBin eqM (eCL (L1 lenM) (aCons (eVar 0) aNil)) (eC (.int 2)))))
def M_is_pair : List D → M D := runB 1 b_is_pair
theorem t_is_pair (g : Gd Hd.fa Hd.fn Hd.ex K mg base) : Fnc P w K mg base 1 "is_pair" 1 M_is_pair := by
  have hN : (["thing"] : List Str).Nodup := by decide +kernel
  obtain ⟨fd, F⟩ := g.says.def_ 4 (d := Hd.d_is_pair) rfl
  exact fnc_of (ps := ["thing"]) F (g.glo 4) rfl (fnC (N := ["thing"]) F (scope_ok (by decide +kernel)) fun cdv A outer s g0 H E d gd => (rss_one (rs_ret (re_and (re_isi isi_tuple rfl (g.free 33) rfl (g.free 36) (by decide +kernel) (re_var 0)) (re_one (re_cmp (c_eq d.u64) (re_callB b_len rfl (g.free 32) (by decide +kernel) (ra_cons (re_var 0) ra_nil)) re_int)))))) (fun kV doc pm an cdv ct us h => by
    match us, h with
    | [u0], _ => rfl)
def b_is_sort : SM := (sSeq (sIf (tTru (eUn (isiM "str") (eVar 0))) (sRet (eBin (inM false) (eVar 0) (eTup (aCons (eC (.str "if")) (aCons (eC (.str "loop")) aNil))))) sNil) (sRet (eAnd (eF 1 M_is_pair (aCons (eVar 0) aNil)) (eAnd (eBin eqM (eBin idxM (eVar 0) (eC (.int 0))) (eC (.str "fun"))) (eF 1 M_is_kind (aCons (eBin idxM (eVar 0) (eC (.int 1))) aNil))))))
def M_is_sort : List D → M D := runB 1 b_is_sort
theorem t_is_sort (g : Gd Hd.fa Hd.fn Hd.ex K mg base) : Fnc P w K mg base 3 "is_sort" 1 M_is_sort := by
  have hN : (["thing"] : List Str).Nodup := by decide +kernel
  obtain ⟨fd, F⟩ := g.says.def_ 5 (d := Hd.d_is_sort) rfl
  exact fnc_of (ps := ["thing"]) F (g.glo 5) rfl (fnC (N := ["thing"]) F (scope_ok (by decide +kernel)) fun cdv A outer s g0 H E d gd => (rss_cons (rs_if (rt_tru (re_isi isi_str rfl (g.free 33) rfl (g.free 42) (by decide +kernel) (re_var 0))) (rss_one (rs_ret (re_cmp (c_in d.units) (re_var 0) (re_tup (ra_cons re_str (ra_cons re_str ra_nil)))))) rss_nil) (rss_one (rs_ret (re_and (re_f (t_is_pair g) d.cal gd (by decide) rfl (ra_cons (re_var 0) ra_nil)) (re_and (re_cmp (c_eq d.u64) (re_ix (re_var 0) re_int) re_str) (re_one (re_f (t_is_kind g) d.cal gd (by decide) rfl (ra_cons (re_ix (re_var 0) re_int) ra_nil))))))))) (fun kV doc pm an cdv ct us h => by
    match us, h with
    | [u0], _ => rfl)
theorem k_is_sort_thing (g : Gd Hd.fa Hd.fn Hd.ex K mg base) : Fnk P w K mg base 3 "is_sort" ["thing"] M_is_sort := by
  have hN : (["thing"] : List Str).Nodup := by decide +kernel
  obtain ⟨fd, F⟩ := g.says.def_ 5 (d := Hd.d_is_sort) rfl
  exact fnk_of (ps := ["thing"]) F (g.glo 5) (fnC (N := ["thing"]) F (scope_ok (by decide +kernel)) fun cdv A outer s g0 H E d gd => (rss_cons (rs_if (rt_tru (re_isi isi_str rfl (g.free 33) rfl (g.free 42) (by decide +kernel) (re_var 0))) (rss_one (rs_ret (re_cmp (c_in d.units) (re_var 0) (re_tup (ra_cons re_str (ra_cons re_str ra_nil)))))) rss_nil) (rss_one (rs_ret (re_and (re_f (t_is_pair g) d.cal gd (by decide) rfl (ra_cons (re_var 0) ra_nil)) (re_and (re_cmp (c_eq d.u64) (re_ix (re_var 0) re_int) re_str) (re_one (re_f (t_is_kind g) d.cal gd (by decide) rfl (ra_cons (re_ix (re_var 0) re_int) ra_nil))))))))) (fun kV doc pm an cdv ct us h => by
    match us, h with
    | [u0], _ => rfl)
def b_is_row : SM := (sSeq (sIf (tOrM (tNotM (tTru (eUn (isiM "tuple") (eVar 0)))) (tOrM (tV (eBin eqM (eCL (L1 lenM) (aCons (eVar 0) aNil)) (eC (.int 0)))) (tNotM (tTru (eUn (isiM "str") (eBin idxM (eVar 0) (eC (.int 0)))))))) (sRet (eC (.bl false))) sNil) (sSeq (sPar 1 2 (aCons (eBin idxM (eVar 0) (eC (.int 0))) (aCons (eSl (eVar 0) (pSome (eC (.int 1))) pNo) aNil))) (sSeq (sIf (tV (eBin (inM false) (eVar 1) (eTup (aCons (eC (.str "end")) (aCons (eC (.str "stop")) aNil))))) (sRet (eBin eqM (eCL (L1 lenM) (aCons (eVar 2) aNil)) (eC (.int 0)))) sNil) (sSeq (sIf (tV (eBin (inM false) (eVar 1) (eTup (aCons (eC (.str "let")) (aCons (eC (.str "use")) aNil))))) (sRet (eAnd (eBin eqM (eCL (L1 lenM) (aCons (eVar 2) aNil)) (eC (.int 2))) (eAnd (eF 1 M_is_name (aCons (eBin idxM (eVar 2) (eC (.int 0))) aNil)) (eF 1 M_is_name (aCons (eBin idxM (eVar 2) (eC (.int 1))) aNil))))) sNil) (sSeq (sIf (tV (eBin neM (eCL (L1 lenM) (aCons (eVar 2) aNil)) (eC (.int 1)))) (sRet (eC (.bl false))) sNil) (sRet (eIf (tV (eBin eqM (eVar 1) (eC (.str "open")))) (eF 1 M_is_sort (aCons (eBin idxM (eVar 2) (eC (.int 0))) aNil)) (eAnd (eBin eqM (eVar 1) (eC (.str "give"))) (eF 1 M_is_kind (aCons (eBin idxM (eVar 2) (eC (.int 0))) aNil))))))))))
def M_is_row : List D → M D := runB 3 b_is_row
theorem t_is_row (g : Gd Hd.fa Hd.fn Hd.ex K mg base) : Fnc P w K mg base 4 "is_row" 1 M_is_row := by
  have hN : (["thing", "word", "rest"] : List Str).Nodup := by decide +kernel
  obtain ⟨fd, F⟩ := g.says.def_ 6 (d := Hd.d_is_row) rfl
  exact fnc_of (ps := ["thing"]) F (g.glo 6) rfl (fnC (N := ["thing", "word", "rest"]) F (scope_ok (by decide +kernel)) fun cdv A outer s g0 H E d gd => (rss_cons (rs_if (RW.rt (rw_or (rt_not (rt_tru (re_isi isi_tuple rfl (g.free 33) rfl (g.free 36) (by decide +kernel) (re_var 0)))) (rw_or (rt_cmp (c_eq d.u64) (re_callB b_len rfl (g.free 32) (by decide +kernel) (ra_cons (re_var 0) ra_nil)) re_int) (rw_or1 (rt_not (rt_tru (re_isi isi_str rfl (g.free 33) rfl (g.free 42) (by decide +kernel) (re_ix (re_var 0) re_int)))))))) (rss_one (rs_ret re_bl)) rss_nil) (rss_cons (rs_par 1 2 rfl hN (ra_cons (re_ix (re_var 0) re_int) (ra_cons (re_sl (re_var 0) (ro_some re_int) ro_no) ra_nil))) (rss_cons (rs_if (rt_cmp (c_in d.units) (re_var 1) (re_tup (ra_cons re_str (ra_cons re_str ra_nil)))) (rss_one (rs_ret (re_cmp (c_eq d.u64) (re_callB b_len rfl (g.free 32) (by decide +kernel) (ra_cons (re_var 2) ra_nil)) re_int))) rss_nil) (rss_cons (rs_if (rt_cmp (c_in d.units) (re_var 1) (re_tup (ra_cons re_str (ra_cons re_str ra_nil)))) (rss_one (rs_ret (re_and (re_cmp (c_eq d.u64) (re_callB b_len rfl (g.free 32) (by decide +kernel) (ra_cons (re_var 2) ra_nil)) re_int) (re_and (re_f (t_is_name g) d.cal gd (by decide) rfl (ra_cons (re_ix (re_var 2) re_int) ra_nil)) (re_one (re_f (t_is_name g) d.cal gd (by decide) rfl (ra_cons (re_ix (re_var 2) re_int) ra_nil))))))) rss_nil) (rss_cons (rs_if (rt_cmp (c_ne d.u64) (re_callB b_len rfl (g.free 32) (by decide +kernel) (ra_cons (re_var 2) ra_nil)) re_int) (rss_one (rs_ret re_bl)) rss_nil) (rss_one (rs_ret (re_if (rt_cmp (c_eq d.u64) (re_var 1) re_str) (re_f (t_is_sort g) d.cal gd (by decide) rfl (ra_cons (re_ix (re_var 2) re_int) ra_nil)) (re_and (re_cmp (c_eq d.u64) (re_var 1) re_str) (re_one (re_f (t_is_kind g) d.cal gd (by decide) rfl (ra_cons (re_ix (re_var 2) re_int) ra_nil))))))))))))) (fun kV doc pm an cdv ct us h => by
    match us, h with
    | [u0], _ => rfl)
theorem k_is_row_thing (g : Gd Hd.fa Hd.fn Hd.ex K mg base) : Fnk P w K mg base 4 "is_row" ["thing"] M_is_row := by
  have hN : (["thing", "word", "rest"] : List Str).Nodup := by decide +kernel
  obtain ⟨fd, F⟩ := g.says.def_ 6 (d := Hd.d_is_row) rfl
  exact fnk_of (ps := ["thing"]) F (g.glo 6) (fnC (N := ["thing", "word", "rest"]) F (scope_ok (by decide +kernel)) fun cdv A outer s g0 H E d gd => (rss_cons (rs_if (RW.rt (rw_or (rt_not (rt_tru (re_isi isi_tuple rfl (g.free 33) rfl (g.free 36) (by decide +kernel) (re_var 0)))) (rw_or (rt_cmp (c_eq d.u64) (re_callB b_len rfl (g.free 32) (by decide +kernel) (ra_cons (re_var 0) ra_nil)) re_int) (rw_or1 (rt_not (rt_tru (re_isi isi_str rfl (g.free 33) rfl (g.free 42) (by decide +kernel) (re_ix (re_var 0) re_int)))))))) (rss_one (rs_ret re_bl)) rss_nil) (rss_cons (rs_par 1 2 rfl hN (ra_cons (re_ix (re_var 0) re_int) (ra_cons (re_sl (re_var 0) (ro_some re_int) ro_no) ra_nil))) (rss_cons (rs_if (rt_cmp (c_in d.units) (re_var 1) (re_tup (ra_cons re_str (ra_cons re_str ra_nil)))) (rss_one (rs_ret (re_cmp (c_eq d.u64) (re_callB b_len rfl (g.free 32) (by decide +kernel) (ra_cons (re_var 2) ra_nil)) re_int))) rss_nil) (rss_cons (rs_if (rt_cmp (c_in d.units) (re_var 1) (re_tup (ra_cons re_str (ra_cons re_str ra_nil)))) (rss_one (rs_ret (re_and (re_cmp (c_eq d.u64) (re_callB b_len rfl (g.free 32) (by decide +kernel) (ra_cons (re_var 2) ra_nil)) re_int) (re_and (re_f (t_is_name g) d.cal gd (by decide) rfl (ra_cons (re_ix (re_var 2) re_int) ra_nil)) (re_one (re_f (t_is_name g) d.cal gd (by decide) rfl (ra_cons (re_ix (re_var 2) re_int) ra_nil))))))) rss_nil) (rss_cons (rs_if (rt_cmp (c_ne d.u64) (re_callB b_len rfl (g.free 32) (by decide +kernel) (ra_cons (re_var 2) ra_nil)) re_int) (rss_one (rs_ret re_bl)) rss_nil) (rss_one (rs_ret (re_if (rt_cmp (c_eq d.u64) (re_var 1) re_str) (re_f (t_is_sort g) d.cal gd (by decide) rfl (ra_cons (re_ix (re_var 2) re_int) ra_nil)) (re_and (re_cmp (c_eq d.u64) (re_var 1) re_str) (re_one (re_f (t_is_kind g) d.cal gd (by decide) rfl (ra_cons (re_ix (re_var 2) re_int) ra_nil))))))))))))) (fun kV doc pm an cdv ct us h => by
    match us, h with
    | [u0], _ => rfl)
def b_is_text : SM := (sRet (eAnd (eUn (isiM "tuple") (eVar 0)) (eCL (L1 allM) (aCons (eN (nComp [1] (iAny (eVar 0)) (gN 1) tYesM (eF 1 M_is_row (aCons (eVar 1) aNil)))) aNil))))
def M_is_text : List D → M D := runB 2 b_is_text
theorem t_is_text (g : Gd Hd.fa Hd.fn Hd.ex K mg base) : Fnc P w K mg base 5 "is_text" 1 M_is_text := by
  have hN : (["thing", "row"] : List Str).Nodup := by decide +kernel
  obtain ⟨fd, F⟩ := g.says.def_ 7 (d := Hd.d_is_text) rfl
  exact fnc_of (ps := ["thing"]) F (g.glo 7) rfl (fnC (N := ["thing", "row"]) F (scope_ok (by decide +kernel)) fun cdv A outer s g0 H E d gd => (rss_one (rs_ret (re_and (re_isi isi_tuple rfl (g.free 33) rfl (g.free 36) (by decide +kernel) (re_var 0)) (re_one (re_callB (b_all rfl) rfl (g.free 34) (by decide +kernel) (ra_cons (re_n (rn_comp [("row", 1)] rfl hN (ri_any (re_var 0)) (blkOk_by (by kernel_rfl)) (by decide) (fun _ _ _ _ _ => (rg_name 1 hN)) (fun _ _ _ _ _ => rts_nil) (fun _ _ _ _ _ => (re_f (t_is_row g) (cal_b d.cal _ _ _ _ _) gd (by decide) rfl (ra_cons (re_var 1) ra_nil))))) ra_nil))))))) (fun kV doc pm an cdv ct us h => by
    match us, h with
    | [u0], _ => rfl)
theorem k_is_text_thing (g : Gd Hd.fa Hd.fn Hd.ex K mg base) : Fnk P w K mg base 5 "is_text" ["thing"] M_is_text := by
  have hN : (["thing", "row"] : List Str).Nodup := by decide +kernel
  obtain ⟨fd, F⟩ := g.says.def_ 7 (d := Hd.d_is_text) rfl
  exact fnk_of (ps := ["thing"]) F (g.glo 7) (fnC (N := ["thing", "row"]) F (scope_ok (by decide +kernel)) fun cdv A outer s g0 H E d gd => (rss_one (rs_ret (re_and (re_isi isi_tuple rfl (g.free 33) rfl (g.free 36) (by decide +kernel) (re_var 0)) (re_one (re_callB (b_all rfl) rfl (g.free 34) (by decide +kernel) (ra_cons (re_n (rn_comp [("row", 1)] rfl hN (ri_any (re_var 0)) (blkOk_by (by kernel_rfl)) (by decide) (fun _ _ _ _ _ => (rg_name 1 hN)) (fun _ _ _ _ _ => rts_nil) (fun _ _ _ _ _ => (re_f (t_is_row g) (cal_b d.cal _ _ _ _ _) gd (by decide) rfl (ra_cons (re_var 1) ra_nil))))) ra_nil))))))) (fun kV doc pm an cdv ct us h => by
    match us, h with
    | [u0], _ => rfl)
def b_is_gaps : SM := (sSeq (sIf (tOrM (tNotM (tTru (eUn (isiM "tuple") (eVar 0)))) (tNotM (tTru (eCL (L1 allM) (aCons (eN (nComp [1] (iAny (eVar 0)) (gN 1) tYesM (eF 1 M_is_number (aCons (eVar 1) aNil)))) aNil))))) (sRet (eC (.bl false))) sNil) (sRet (eCL (L1 allM) (aCons (eN (nComp [1, 2] (iZipM (aCons (eVar 0) (aCons (eSl (eVar 0) (pSome (eC (.int 1))) pNo) aNil))) (gTn 2 (gAll1 (gN 1) (gAll1 (gN 2) gAll0))) tYesM (eBin ltM (eVar 1) (eVar 2)))) aNil))))
def M_is_gaps : List D → M D := runB 3 b_is_gaps
theorem t_is_gaps (g : Gd Hd.fa Hd.fn Hd.ex K mg base) : Fnc P w K mg base 3 "is_gaps" 1 M_is_gaps := by
  have hN : (["thing", "one", "other"] : List Str).Nodup := by decide +kernel
  obtain ⟨fd, F⟩ := g.says.def_ 8 (d := Hd.d_is_gaps) rfl
  exact fnc_of (ps := ["thing"]) F (g.glo 8) rfl (fnC (N := ["thing", "one", "other"]) F (scope_ok (by decide +kernel)) fun cdv A outer s g0 H E d gd => (rss_cons (rs_if (RW.rt (rw_or (rt_not (rt_tru (re_isi isi_tuple rfl (g.free 33) rfl (g.free 36) (by decide +kernel) (re_var 0)))) (rw_or1 (rt_not (rt_tru (re_callB (b_all rfl) rfl (g.free 34) (by decide +kernel) (ra_cons (re_n (rn_comp [("one", 1)] rfl hN (ri_any (re_var 0)) (blkOk_by (by kernel_rfl)) (by decide) (fun _ _ _ _ _ => (rg_name 1 hN)) (fun _ _ _ _ _ => rts_nil) (fun _ _ _ _ _ => (re_f (t_is_number g) (cal_b d.cal _ _ _ _ _) gd (by decide) rfl (ra_cons (re_var 1) ra_nil))))) ra_nil))))))) (rss_one (rs_ret re_bl)) rss_nil) (rss_one (rs_ret (re_callB (b_all rfl) rfl (g.free 34) (by decide +kernel) (ra_cons (re_n (rn_comp [("one", 1), ("other", 2)] rfl hN (ri_zip rfl (g.free 35) (ra_cons (re_var 0) (ra_cons (re_sl (re_var 0) (ro_some re_int) ro_no) ra_nil))) (blkOk_by (by kernel_rfl)) (by decide) (fun _ _ _ _ _ => (rg_tup 2 rfl (rgs_cons (rg_name 1 hN) (rgs_cons (rg_name 2 hN) rgs_nil)))) (fun _ _ _ _ _ => rts_nil) (fun _ _ _ _ _ => (re_cmp c_lt (re_var 1) (re_var 2))))) ra_nil)))))) (fun kV doc pm an cdv ct us h => by
    match us, h with
    | [u0], _ => rfl)
theorem k_is_gaps_thing (g : Gd Hd.fa Hd.fn Hd.ex K mg base) : Fnk P w K mg base 3 "is_gaps" ["thing"] M_is_gaps := by
  have hN : (["thing", "one", "other"] : List Str).Nodup := by decide +kernel
  obtain ⟨fd, F⟩ := g.says.def_ 8 (d := Hd.d_is_gaps) rfl
  exact fnk_of (ps := ["thing"]) F (g.glo 8) (fnC (N := ["thing", "one", "other"]) F (scope_ok (by decide +kernel)) fun cdv A outer s g0 H E d gd => (rss_cons (rs_if (RW.rt (rw_or (rt_not (rt_tru (re_isi isi_tuple rfl (g.free 33) rfl (g.free 36) (by decide +kernel) (re_var 0)))) (rw_or1 (rt_not (rt_tru (re_callB (b_all rfl) rfl (g.free 34) (by decide +kernel) (ra_cons (re_n (rn_comp [("one", 1)] rfl hN (ri_any (re_var 0)) (blkOk_by (by kernel_rfl)) (by decide) (fun _ _ _ _ _ => (rg_name 1 hN)) (fun _ _ _ _ _ => rts_nil) (fun _ _ _ _ _ => (re_f (t_is_number g) (cal_b d.cal _ _ _ _ _) gd (by decide) rfl (ra_cons (re_var 1) ra_nil))))) ra_nil))))))) (rss_one (rs_ret re_bl)) rss_nil) (rss_one (rs_ret (re_callB (b_all rfl) rfl (g.free 34) (by decide +kernel) (ra_cons (re_n (rn_comp [("one", 1), ("other", 2)] rfl hN (ri_zip rfl (g.free 35) (ra_cons (re_var 0) (ra_cons (re_sl (re_var 0) (ro_some re_int) ro_no) ra_nil))) (blkOk_by (by kernel_rfl)) (by decide) (fun _ _ _ _ _ => (rg_tup 2 rfl (rgs_cons (rg_name 1 hN) (rgs_cons (rg_name 2 hN) rgs_nil)))) (fun _ _ _ _ _ => rts_nil) (fun _ _ _ _ _ => (re_cmp c_lt (re_var 1) (re_var 2))))) ra_nil)))))) (fun kV doc pm an cdv ct us h => by
    match us, h with
    | [u0], _ => rfl)
def b_is_complaint : SM := (sSeq (sIf (tOrM (tNotM (tTru (eF 1 M_is_pair (aCons (eVar 0) aNil)))) (tNotM (tTru (eF 1 M_is_number (aCons (eBin idxM (eVar 0) (eC (.int 0))) aNil))))) (sRet (eC (.bl false))) sNil) (sRet (eAnd (eUn (isiM "str") (eBin idxM (eVar 0) (eC (.int 1)))) (eBin (inM false) (eBin idxM (eVar 0) (eC (.int 1))) (eC (.tup [.str "use", .str "unused", .str "twice", .str "stop", .str "give", .str "after", .str "falls", .str "open", .str "end"]))))))
def M_is_complaint : List D → M D := runB 1 b_is_complaint
theorem t_is_complaint (g : Gd Hd.fa Hd.fn Hd.ex K mg base) : Fnc P w K mg base 3 "is_complaint" 1 M_is_complaint := by
  have hN : (["thing"] : List Str).Nodup := by decide +kernel
  obtain ⟨fd, F⟩ := g.says.def_ 9 (d := Hd.d_is_complaint) rfl
  exact fnc_of (ps := ["thing"]) F (g.glo 9) rfl (fnC (N := ["thing"]) F (scope_ok (by decide +kernel)) fun cdv A outer s g0 H E d gd => (rss_cons (rs_if (RW.rt (rw_or (rt_not (rt_tru (re_f (t_is_pair g) d.cal gd (by decide) rfl (ra_cons (re_var 0) ra_nil)))) (rw_or1 (rt_not (rt_tru (re_f (t_is_number g) d.cal gd (by decide) rfl (ra_cons (re_ix (re_var 0) re_int) ra_nil))))))) (rss_one (rs_ret re_bl)) rss_nil) (rss_one (rs_ret (re_and (re_isi isi_str rfl (g.free 33) rfl (g.free 42) (by decide +kernel) (re_ix (re_var 0) re_int)) (re_one (re_cmp (c_in d.units) (re_ix (re_var 0) re_int) (re_tab rfl (g.glo 47) (fun H => He.tupB_ok (tab_COMPLAINT_WORDS g) H) (fun F θ => .cons (.str _) (.cons (.str _) (.cons (.str _) (.cons (.str _) (.cons (.str _) (.cons (.str _) (.cons (.str _) (.cons (.str _) (.cons (.str _) (.nil)))))))))))))))))) (fun kV doc pm an cdv ct us h => by
    match us, h with
    | [u0], _ => rfl)
theorem k_is_complaint_thing (g : Gd Hd.fa Hd.fn Hd.ex K mg base) : Fnk P w K mg base 3 "is_complaint" ["thing"] M_is_complaint := by
  have hN : (["thing"] : List Str).Nodup := by decide +kernel
  obtain ⟨fd, F⟩ := g.says.def_ 9 (d := Hd.d_is_complaint) rfl
  exact fnk_of (ps := ["thing"]) F (g.glo 9) (fnC (N := ["thing"]) F (scope_ok (by decide +kernel)) fun cdv A outer s g0 H E d gd => (rss_cons (rs_if (RW.rt (rw_or (rt_not (rt_tru (re_f (t_is_pair g) d.cal gd (by decide) rfl (ra_cons (re_var 0) ra_nil)))) (rw_or1 (rt_not (rt_tru (re_f (t_is_number g) d.cal gd (by decide) rfl (ra_cons (re_ix (re_var 0) re_int) ra_nil))))))) (rss_one (rs_ret re_bl)) rss_nil) (rss_one (rs_ret (re_and (re_isi isi_str rfl (g.free 33) rfl (g.free 42) (by decide +kernel) (re_ix (re_var 0) re_int)) (re_one (re_cmp (c_in d.units) (re_ix (re_var 0) re_int) (re_tab rfl (g.glo 47) (fun H => He.tupB_ok (tab_COMPLAINT_WORDS g) H) (fun F θ => .cons (.str _) (.cons (.str _) (.cons (.str _) (.cons (.str _) (.cons (.str _) (.cons (.str _) (.cons (.str _) (.cons (.str _) (.cons (.str _) (.nil)))))))))))))))))) (fun kV doc pm an cdv ct us h => by
    match us, h with
    | [u0], _ => rfl)
def b_is_way : SM := (sSeq (sIf (tOrM (tNotM (tTru (eUn (isiM "tuple") (eVar 0)))) (tNotM (tTru (eCL (L1 allM) (aCons (eN (nComp [3] (iAny (eVar 0)) (gN 3) tYesM (eF 1 M_is_pair (aCons (eVar 3) aNil)))) aNil))))) (sRet (eC (.bl false))) sNil) (sSeq (sIf (tNotM (tTru (eCL (L1 allM) (aCons (eN (nComp [1, 2] (iAny (eVar 0)) (gTn 2 (gAll1 (gN 1) (gAll1 (gN 2) gAll0))) tYesM (eAnd (eF 1 M_is_text (aCons (eVar 2) aNil)) (eBin gtM (eCL (L1 lenM) (aCons (eVar 2) aNil)) (eC (.int 0)))))) aNil)))) (sRet (eC (.bl false))) sNil) (sRet (eF 1 M_is_gaps (aCons (eCL (L1 tupleM) (aCons (eN (nComp [1, 2] (iAny (eVar 0)) (gTn 2 (gAll1 (gN 1) (gAll1 (gN 2) gAll0))) tYesM (eVar 1))) aNil)) aNil)))))
def M_is_way : List D → M D := runB 4 b_is_way
theorem t_is_way (g : Gd Hd.fa Hd.fn Hd.ex K mg base) : Fnc P w K mg base 6 "is_way" 1 M_is_way := by
  have hN : (["thing", "gap", "rows", "one"] : List Str).Nodup := by decide +kernel
  obtain ⟨fd, F⟩ := g.says.def_ 10 (d := Hd.d_is_way) rfl
  exact fnc_of (ps := ["thing"]) F (g.glo 10) rfl (fnC (N := ["thing", "gap", "rows", "one"]) F (scope_ok (by decide +kernel)) fun cdv A outer s g0 H E d gd => (rss_cons (rs_if (RW.rt (rw_or (rt_not (rt_tru (re_isi isi_tuple rfl (g.free 33) rfl (g.free 36) (by decide +kernel) (re_var 0)))) (rw_or1 (rt_not (rt_tru (re_callB (b_all rfl) rfl (g.free 34) (by decide +kernel) (ra_cons (re_n (rn_comp [("one", 3)] rfl hN (ri_any (re_var 0)) (blkOk_by (by kernel_rfl)) (by decide) (fun _ _ _ _ _ => (rg_name 3 hN)) (fun _ _ _ _ _ => rts_nil) (fun _ _ _ _ _ => (re_f (t_is_pair g) (cal_b d.cal _ _ _ _ _) gd (by decide) rfl (ra_cons (re_var 3) ra_nil))))) ra_nil))))))) (rss_one (rs_ret re_bl)) rss_nil) (rss_cons (rs_if (rt_not (rt_tru (re_callB (b_all rfl) rfl (g.free 34) (by decide +kernel) (ra_cons (re_n (rn_comp [("gap", 1), ("rows", 2)] rfl hN (ri_any (re_var 0)) (blkOk_by (by kernel_rfl)) (by decide) (fun _ _ _ _ _ => (rg_tup 2 rfl (rgs_cons (rg_name 1 hN) (rgs_cons (rg_name 2 hN) rgs_nil)))) (fun _ _ _ _ _ => rts_nil) (fun _ _ _ _ _ => (re_and (re_f (t_is_text g) (cal_b d.cal _ _ _ _ _) gd (by decide) rfl (ra_cons (re_var 2) ra_nil)) (re_one (re_cmp c_gt (re_callB b_len rfl (g.free 32) (by decide +kernel) (ra_cons (re_var 2) ra_nil)) re_int)))))) ra_nil)))) (rss_one (rs_ret re_bl)) rss_nil) (rss_one (rs_ret (re_f (t_is_gaps g) d.cal gd (by decide) rfl (ra_cons (re_callTy b_tuple rfl (g.free 36) (by decide +kernel) (ra_cons (re_n (rn_comp [("gap", 1), ("rows", 2)] rfl hN (ri_any (re_var 0)) (blkOk_by (by kernel_rfl)) (by decide) (fun _ _ _ _ _ => (rg_tup 2 rfl (rgs_cons (rg_name 1 hN) (rgs_cons (rg_name 2 hN) rgs_nil)))) (fun _ _ _ _ _ => rts_nil) (fun _ _ _ _ _ => (re_var 1)))) ra_nil)) ra_nil))))))) (fun kV doc pm an cdv ct us h => by
    match us, h with
    | [u0], _ => rfl)
theorem k_is_way_thing (g : Gd Hd.fa Hd.fn Hd.ex K mg base) : Fnk P w K mg base 6 "is_way" ["thing"] M_is_way := by
  have hN : (["thing", "gap", "rows", "one"] : List Str).Nodup := by decide +kernel
  obtain ⟨fd, F⟩ := g.says.def_ 10 (d := Hd.d_is_way) rfl
  exact fnk_of (ps := ["thing"]) F (g.glo 10) (fnC (N := ["thing", "gap", "rows", "one"]) F (scope_ok (by decide +kernel)) fun cdv A outer s g0 H E d gd => (rss_cons (rs_if (RW.rt (rw_or (rt_not (rt_tru (re_isi isi_tuple rfl (g.free 33) rfl (g.free 36) (by decide +kernel) (re_var 0)))) (rw_or1 (rt_not (rt_tru (re_callB (b_all rfl) rfl (g.free 34) (by decide +kernel) (ra_cons (re_n (rn_comp [("one", 3)] rfl hN (ri_any (re_var 0)) (blkOk_by (by kernel_rfl)) (by decide) (fun _ _ _ _ _ => (rg_name 3 hN)) (fun _ _ _ _ _ => rts_nil) (fun _ _ _ _ _ => (re_f (t_is_pair g) (cal_b d.cal _ _ _ _ _) gd (by decide) rfl (ra_cons (re_var 3) ra_nil))))) ra_nil))))))) (rss_one (rs_ret re_bl)) rss_nil) (rss_cons (rs_if (rt_not (rt_tru (re_callB (b_all rfl) rfl (g.free 34) (by decide +kernel) (ra_cons (re_n (rn_comp [("gap", 1), ("rows", 2)] rfl hN (ri_any (re_var 0)) (blkOk_by (by kernel_rfl)) (by decide) (fun _ _ _ _ _ => (rg_tup 2 rfl (rgs_cons (rg_name 1 hN) (rgs_cons (rg_name 2 hN) rgs_nil)))) (fun _ _ _ _ _ => rts_nil) (fun _ _ _ _ _ => (re_and (re_f (t_is_text g) (cal_b d.cal _ _ _ _ _) gd (by decide) rfl (ra_cons (re_var 2) ra_nil)) (re_one (re_cmp c_gt (re_callB b_len rfl (g.free 32) (by decide +kernel) (ra_cons (re_var 2) ra_nil)) re_int)))))) ra_nil)))) (rss_one (rs_ret re_bl)) rss_nil) (rss_one (rs_ret (re_f (t_is_gaps g) d.cal gd (by decide) rfl (ra_cons (re_callTy b_tuple rfl (g.free 36) (by decide +kernel) (ra_cons (re_n (rn_comp [("gap", 1), ("rows", 2)] rfl hN (ri_any (re_var 0)) (blkOk_by (by kernel_rfl)) (by decide) (fun _ _ _ _ _ => (rg_tup 2 rfl (rgs_cons (rg_name 1 hN) (rgs_cons (rg_name 2 hN) rgs_nil)))) (fun _ _ _ _ _ => rts_nil) (fun _ _ _ _ _ => (re_var 1)))) ra_nil)) ra_nil))))))) (fun kV doc pm an cdv ct us h => by
    match us, h with
    | [u0], _ => rfl)
def b__law_feed : SM := (sRet (eFeed (nComp [1] (iAny (eSl (eVar 0) pNo (pSome (eC (.int 63))))) (gN 1) tYesM (eCL (L1 intM) (aCons (eVar 1) aNil)))))
def M__law_feed : List D → M D := runB 2 b__law_feed
theorem t__law_feed (g : Gd Hd.fa Hd.fn Hd.ex K mg base) : Fnc P w K mg base 1 "_law_feed" 1 M__law_feed := by
  have hN : (["_law_script", "_law_cell"] : List Str).Nodup := by decide +kernel
  obtain ⟨fd, F⟩ := g.says.def_ 11 (d := Hd.d__law_feed) rfl
  exact fnc_of (ps := ["_law_script"]) F (g.glo 11) rfl (fnC (N := ["_law_script", "_law_cell"]) F (scope_ok (by decide +kernel)) fun cdv A outer s g0 H E d gd => (rss_one (rs_ret (re_feed (rn_comp [("_law_cell", 1)] rfl hN (ri_any (re_sl (re_var 0) ro_no (ro_some re_int))) (blkOk_by (by kernel_rfl)) (by decide) (fun _ _ _ _ _ => (rg_name 1 hN)) (fun _ _ _ _ _ => rts_nil) (fun _ _ _ _ _ => (re_callTy b_int rfl (g.free 41) (by decide +kernel) (ra_cons (re_var 1) ra_nil)))))))) (fun kV doc pm an cdv ct us h => by
    match us, h with
    | [u0], _ => rfl)
def b__law_pick : SM := (sRet (eBin idxM (eVar 1) (eF 2 M__law_draw (aCons (eVar 0) (aCons (eCL (L1 lenM) (aCons (eVar 1) aNil)) aNil)))))
def M__law_pick : List D → M D := runB 2 b__law_pick
theorem t__law_pick (g : Gd Hd.fa Hd.fn Hd.ex K mg base) : Fnc P w K mg base 2 "_law_pick" 2 M__law_pick := by
  have hN : (["_law_feed_here", "_law_some"] : List Str).Nodup := by decide +kernel
  obtain ⟨fd, F⟩ := g.says.def_ 13 (d := Hd.d__law_pick) rfl
  exact fnc_of (ps := ["_law_feed_here", "_law_some"]) F (g.glo 13) rfl (fnC (N := ["_law_feed_here", "_law_some"]) F (scope_ok (by decide +kernel)) fun cdv A outer s g0 H E d gd => (rss_one (rs_ret (re_ix (re_var 1) (re_f (t__law_draw g) d.cal gd (by decide) rfl (ra_cons (re_var 0) (ra_cons (re_callB b_len rfl (g.free 32) (by decide +kernel) (ra_cons (re_var 1) ra_nil)) ra_nil))))))) (fun kV doc pm an cdv ct us h => by
    match us, h with
    | [u0, u1], _ => rfl)
def b__law_item : SM := (sSeq (sPar 4 5 (aCons (eF 2 M__law_draw (aCons (eVar 0) (aCons (eC (.int 12)) aNil))) (aCons (eBin idxM (eN (nLst (aCons (eTup (aCons (eC (.int 3)) (aCons (eC (.int 6)) aNil))) (aCons (eTup (aCons (eC (.int 2)) (aCons (eC (.int 8)) aNil))) (aCons (eTup (aCons (eC (.int 7)) (aCons (eC (.int 8)) aNil))) (aCons (eTup (aCons (eC (.int 1)) (aCons (eC (.int 2)) aNil))) aNil)))))) (eVar 3)) aNil))) (sSeq (sIf (tV (eBin ltM (eVar 4) (eBin idxM (eVar 5) (eC (.int 0))))) (sRet (eTup (aCons (eC (.str "open")) (aCons (eF 2 M__law_pick (aCons (eVar 0) (aCons (eN (nLst (aCons (eC (.str "if")) (aCons (eC (.str "loop")) (aCons (eTup (aCons (eC (.str "fun")) (aCons (eC (.str "")) aNil))) (aCons (eTup (aCons (eC (.str "fun")) (aCons (eF 2 M__law_pick (aCons (eVar 0) (aCons (eVar 2) aNil))) aNil))) aNil)))))) aNil))) aNil)))) sNil) (sSeq (sIf (tV (eBin ltM (eVar 4) (eBin idxM (eVar 5) (eC (.int 1))))) (sRet (eTup (aCons (eC (.str "end")) aNil))) sNil) (sSeq (sSet 4 (eF 2 M__law_draw (aCons (eVar 0) (aCons (eC (.int 6)) aNil)))) (sSeq (sIf (tV (eBin ltM (eVar 4) (eC (.int 4)))) (sRet (eTup (aCons (eF 2 M__law_pick (aCons (eVar 0) (aCons (eN (nLst (aCons (eC (.str "let")) (aCons (eC (.str "use")) aNil)))) aNil))) (aCons (eF 2 M__law_pick (aCons (eVar 0) (aCons (eVar 1) aNil))) (aCons (eF 2 M__law_pick (aCons (eVar 0) (aCons (eVar 2) aNil))) aNil))))) sNil) (sRet (eIf (tV (eBin eqM (eVar 4) (eC (.int 4)))) (eTup (aCons (eC (.str "stop")) aNil)) (eTup (aCons (eC (.str "give")) (aCons (eF 2 M__law_pick (aCons (eVar 0) (aCons (eBin addM (eVar 2) (eN (nLst (aCons (eC (.str "")) aNil)))) aNil))) aNil))))))))))
def M__law_item : List D → M D := runB 6 b__law_item
theorem t__law_item (g : Gd Hd.fa Hd.fn Hd.ex K mg base) : Fnc P w K mg base 3 "_law_item" 4 M__law_item := by
  have hN : (["_law_feed_here", "_law_names", "_law_kinds", "_law_lean", "_law_lot", "_law_bars"] : List Str).Nodup := by decide +kernel
  obtain ⟨fd, F⟩ := g.says.def_ 14 (d := Hd.d__law_item) rfl
  exact fnc_of (ps := ["_law_feed_here", "_law_names", "_law_kinds", "_law_lean"]) F (g.glo 14) rfl (fnC (N := ["_law_feed_here", "_law_names", "_law_kinds", "_law_lean", "_law_lot", "_law_bars"]) F (scope_ok (by decide +kernel)) fun cdv A outer s g0 H E d gd => (rss_cons (rs_par 4 5 rfl hN (ra_cons (re_f (t__law_draw g) d.cal gd (by decide) rfl (ra_cons (re_var 0) (ra_cons re_int ra_nil))) (ra_cons (re_ix (re_n (rn_lst (ra_cons (re_tup (ra_cons re_int (ra_cons re_int ra_nil))) (ra_cons (re_tup (ra_cons re_int (ra_cons re_int ra_nil))) (ra_cons (re_tup (ra_cons re_int (ra_cons re_int ra_nil))) (ra_cons (re_tup (ra_cons re_int (ra_cons re_int ra_nil))) ra_nil)))))) (re_var 3)) ra_nil))) (rss_cons (rs_if (rt_cmp c_lt (re_var 4) (re_ix (re_var 5) re_int)) (rss_one (rs_ret (re_tup (ra_cons re_str (ra_cons (re_f (t__law_pick g) d.cal gd (by decide) rfl (ra_cons (re_var 0) (ra_cons (re_n (rn_lst (ra_cons re_str (ra_cons re_str (ra_cons (re_tup (ra_cons re_str (ra_cons re_str ra_nil))) (ra_cons (re_tup (ra_cons re_str (ra_cons (re_f (t__law_pick g) d.cal gd (by decide) rfl (ra_cons (re_var 0) (ra_cons (re_var 2) ra_nil))) ra_nil))) ra_nil)))))) ra_nil))) ra_nil))))) rss_nil) (rss_cons (rs_if (rt_cmp c_lt (re_var 4) (re_ix (re_var 5) re_int)) (rss_one (rs_ret (re_tup (ra_cons re_str ra_nil)))) rss_nil) (rss_cons (rs_set 4 hN (re_f (t__law_draw g) d.cal gd (by decide) rfl (ra_cons (re_var 0) (ra_cons re_int ra_nil)))) (rss_cons (rs_if (rt_cmp c_lt (re_var 4) re_int) (rss_one (rs_ret (re_tup (ra_cons (re_f (t__law_pick g) d.cal gd (by decide) rfl (ra_cons (re_var 0) (ra_cons (re_n (rn_lst (ra_cons re_str (ra_cons re_str ra_nil)))) ra_nil))) (ra_cons (re_f (t__law_pick g) d.cal gd (by decide) rfl (ra_cons (re_var 0) (ra_cons (re_var 1) ra_nil))) (ra_cons (re_f (t__law_pick g) d.cal gd (by decide) rfl (ra_cons (re_var 0) (ra_cons (re_var 2) ra_nil))) ra_nil)))))) rss_nil) (rss_one (rs_ret (re_if (rt_cmp (c_eq d.u64) (re_var 4) re_int) (re_tup (ra_cons re_str ra_nil)) (re_tup (ra_cons re_str (ra_cons (re_f (t__law_pick g) d.cal gd (by decide) rfl (ra_cons (re_var 0) (ra_cons (re_bin o_add (re_var 2) (re_n (rn_lst (ra_cons re_str ra_nil)))) ra_nil))) ra_nil)))))))))))) (fun kV doc pm an cdv ct us h => by
    match us, h with
    | [u0, u1, u2, u3], _ => rfl)
def b__law_page : SM := (sSeq (sSet 2 (eN (nLst (aCons (eC (.str "x")) (aCons (eC (.str "y")) (aCons (eC (.str "let")) (aCons (eC (.str "end")) (aCons (eC (.str "open")) (aCons (eC (.str "use")) (aCons (eC (.str "fun")) (aCons (eC (.str "a")) (aCons (eC (.str "abcdefgh")) (aCons (eC (.str "if")) (aCons (eC (.str "stop")) (aCons (eC (.str "xy")) aNil))))))))))))))) (sSeq (sSet 3 (eN (nComp [6] (iR1 (aCons (eBin addM (eC (.int 1)) (eF 2 M__law_draw (aCons (eVar 0) (aCons (eC (.int 3)) aNil)))) aNil)) (gN 6) tYesM (eF 2 M__law_pick (aCons (eVar 0) (aCons (eVar 2) aNil)))))) (sSeq (sSet 4 (eN (nComp [6] (iR1 (aCons (eC (.int 2)) aNil)) (gN 6) tYesM (eF 2 M__law_pick (aCons (eVar 0) (aCons (eN (nLst (aCons (eC (.str "num")) (aCons (eC (.str "text")) (aCons (eC (.str "end")) (aCons (eC (.str "loop")) (aCons (eC (.str "k")) (aCons (eC (.str "zzzzzzzz")) (aCons (eC (.str "x")) aNil))))))))) aNil)))))) (sSeq (sSet 5 (eF 2 M__law_draw (aCons (eVar 0) (aCons (eC (.int 4)) aNil)))) (sRet (eCL (L1 tupleM) (aCons (eN (nComp [6] (iR1 (aCons (eF 2 M__law_draw (aCons (eVar 0) (aCons (eBin addM (eVar 1) (eC (.int 1))) aNil))) aNil)) (gN 6) tYesM (eF 4 M__law_item (aCons (eVar 0) (aCons (eVar 3) (aCons (eVar 4) (aCons (eVar 5) aNil))))))) aNil)))))))
def M__law_page : List D → M D := runB 7 b__law_page
theorem t__law_page (g : Gd Hd.fa Hd.fn Hd.ex K mg base) : Fnc P w K mg base 4 "_law_page" 2 M__law_page := by
  have hN : (["_law_feed_here", "_law_most", "_law_signs", "_law_names", "_law_kinds", "_law_lean", "_law_lap"] : List Str).Nodup := by decide +kernel
  obtain ⟨fd, F⟩ := g.says.def_ 15 (d := Hd.d__law_page) rfl
  exact fnc_of (ps := ["_law_feed_here", "_law_most"]) F (g.glo 15) rfl (fnC (N := ["_law_feed_here", "_law_most", "_law_signs", "_law_names", "_law_kinds", "_law_lean", "_law_lap"]) F (scope_ok (by decide +kernel)) fun cdv A outer s g0 H E d gd => (rss_cons (rs_set 2 hN (re_n (rn_lst (ra_cons re_str (ra_cons re_str (ra_cons re_str (ra_cons re_str (ra_cons re_str (ra_cons re_str (ra_cons re_str (ra_cons re_str (ra_cons re_str (ra_cons re_str (ra_cons re_str (ra_cons re_str ra_nil))))))))))))))) (rss_cons (rs_set 3 hN (re_n (rn_comp [("_law_lap", 6)] rfl hN (ri_range1 rfl (g.free 40) (ra_cons (re_bin o_add re_int (re_f (t__law_draw g) d.cal gd (by decide) rfl (ra_cons (re_var 0) (ra_cons re_int ra_nil)))) ra_nil)) (blkOk_by (by kernel_rfl)) (by decide) (fun _ _ _ _ _ => (rg_name 6 hN)) (fun _ _ _ _ _ => rts_nil) (fun _ _ _ _ _ => (re_f (t__law_pick g) (cal_b d.cal _ _ _ _ _) gd (by decide) rfl (ra_cons (re_var 0) (ra_cons (re_var 2) ra_nil))))))) (rss_cons (rs_set 4 hN (re_n (rn_comp [("_law_lap", 6)] rfl hN (ri_range1 rfl (g.free 40) (ra_cons re_int ra_nil)) (blkOk_by (by kernel_rfl)) (by decide) (fun _ _ _ _ _ => (rg_name 6 hN)) (fun _ _ _ _ _ => rts_nil) (fun _ _ _ _ _ => (re_f (t__law_pick g) (cal_b d.cal _ _ _ _ _) gd (by decide) rfl (ra_cons (re_var 0) (ra_cons (re_n (rn_lst (ra_cons re_str (ra_cons re_str (ra_cons re_str (ra_cons re_str (ra_cons re_str (ra_cons re_str (ra_cons re_str ra_nil))))))))) ra_nil))))))) (rss_cons (rs_set 5 hN (re_f (t__law_draw g) d.cal gd (by decide) rfl (ra_cons (re_var 0) (ra_cons re_int ra_nil)))) (rss_one (rs_ret (re_callTy b_tuple rfl (g.free 36) (by decide +kernel) (ra_cons (re_n (rn_comp [("_law_lap", 6)] rfl hN (ri_range1 rfl (g.free 40) (ra_cons (re_f (t__law_draw g) d.cal gd (by decide) rfl (ra_cons (re_var 0) (ra_cons (re_bin o_add (re_var 1) re_int) ra_nil))) ra_nil)) (blkOk_by (by kernel_rfl)) (by decide) (fun _ _ _ _ _ => (rg_name 6 hN)) (fun _ _ _ _ _ => rts_nil) (fun _ _ _ _ _ => (re_f (t__law_item g) (cal_b d.cal _ _ _ _ _) gd (by decide) rfl (ra_cons (re_var 0) (ra_cons (re_var 3) (ra_cons (re_var 4) (ra_cons (re_var 5) ra_nil)))))))) ra_nil))))))))) (fun kV doc pm an cdv ct us h => by
    match us, h with
    | [u0, u1], _ => rfl)
def b__law_is_number : SM := (sRet (eAnd (eUn (isiM "int") (eVar 0)) (eAnd (eNot (eUn (isiM "bool") (eVar 0))) (eBin geM (eVar 0) (eC (.int 0))))))
def M__law_is_number : List D → M D := runB 1 b__law_is_number
theorem t__law_is_number (g : Gd Hd.fa Hd.fn Hd.ex K mg base) : Fnc P w K mg base 1 "_law_is_number" 1 M__law_is_number := by
  have hN : (["_law_item_here"] : List Str).Nodup := by decide +kernel
  obtain ⟨fd, F⟩ := g.says.def_ 16 (d := Hd.d__law_is_number) rfl
  exact fnc_of (ps := ["_law_item_here"]) F (g.glo 16) rfl (fnC (N := ["_law_item_here"]) F (scope_ok (by decide +kernel)) fun cdv A outer s g0 H E d gd => (rss_one (rs_ret (re_and (re_isi isi_int rfl (g.free 33) rfl (g.free 41) (by decide +kernel) (re_var 0)) (re_and (re_not (re_isi isi_bool rfl (g.free 33) rfl (g.free 43) (by decide +kernel) (re_var 0))) (re_one (re_cmp c_ge (re_var 0) re_int))))))) (fun kV doc pm an cdv ct us h => by
    match us, h with
    | [u0], _ => rfl)
def b__law_is_name : SM := (sSeq (sIf (tOrM (tNotM (tTru (eUn (isiM "str") (eVar 0)))) (tNotM (tV (eChain leM leM (eC (.int 1)) (eCL (L1 lenM) (aCons (eVar 0) aNil)) (eC (.int 8)))))) (sRet (eC (.bl false))) sNil) (sRet (eBin eqM (eN (nComp [1] (iAny (eVar 0)) (gN 1) (tV (eBin (inM true) (eVar 1) (eC (.str "abcdefghijklmnopqrstuvwxyz")))) (eVar 1))) (eN (nLst aNil)))))
def M__law_is_name : List D → M D := runB 2 b__law_is_name
theorem t__law_is_name (g : Gd Hd.fa Hd.fn Hd.ex K mg base) : Fnc P w K mg base 1 "_law_is_name" 1 M__law_is_name := by
  have hN : (["_law_item_here", "_law_sign"] : List Str).Nodup := by decide +kernel
  obtain ⟨fd, F⟩ := g.says.def_ 17 (d := Hd.d__law_is_name) rfl
  exact fnc_of (ps := ["_law_item_here"]) F (g.glo 17) rfl (fnC (N := ["_law_item_here", "_law_sign"]) F (scope_ok (by decide +kernel)) fun cdv A outer s g0 H E d gd => (rss_cons (rs_if (RW.rt (rw_or (rt_not (rt_tru (re_isi isi_str rfl (g.free 33) rfl (g.free 42) (by decide +kernel) (re_var 0)))) (rw_or1 (rt_not (rt_chain c_le c_le re_int (re_callB b_len rfl (g.free 32) (by decide +kernel) (ra_cons (re_var 0) ra_nil)) re_int))))) (rss_one (rs_ret re_bl)) rss_nil) (rss_one (rs_ret (re_cmp (c_eq d.u64) (re_n (rn_comp [("_law_sign", 1)] rfl hN (ri_any (re_var 0)) (blkOk_by (by kernel_rfl)) (by decide) (fun _ _ _ _ _ => (rg_name 1 hN)) (fun _ _ _ _ _ => (rts_one (rt_cmp (c_nin d.units) (re_var 1) re_str))) (fun _ _ _ _ _ => (re_var 1)))) (re_n (rn_lst ra_nil))))))) (fun kV doc pm an cdv ct us h => by
    match us, h with
    | [u0], _ => rfl)
def b__law_is_kind : SM := (sRet (eAnd (eUn (isiM "str") (eVar 0)) (eOr (eBin eqM (eVar 0) (eC (.str ""))) (eF 1 M__law_is_name (aCons (eVar 0) aNil)))))
def M__law_is_kind : List D → M D := runB 1 b__law_is_kind
theorem t__law_is_kind (g : Gd Hd.fa Hd.fn Hd.ex K mg base) : Fnc P w K mg base 2 "_law_is_kind" 1 M__law_is_kind := by
  have hN : (["_law_item_here"] : List Str).Nodup := by decide +kernel
  obtain ⟨fd, F⟩ := g.says.def_ 18 (d := Hd.d__law_is_kind) rfl
  exact fnc_of (ps := ["_law_item_here"]) F (g.glo 18) rfl (fnC (N := ["_law_item_here"]) F (scope_ok (by decide +kernel)) fun cdv A outer s g0 H E d gd => (rss_one (rs_ret (re_and (re_isi isi_str rfl (g.free 33) rfl (g.free 42) (by decide +kernel) (re_var 0)) (re_one (re_or (re_cmp (c_eq d.u64) (re_var 0) re_str) (re_one (re_f (t__law_is_name g) d.cal gd (by decide) rfl (ra_cons (re_var 0) ra_nil))))))))) (fun kV doc pm an cdv ct us h => by
    match us, h with
    | [u0], _ => rfl)
def b__law_is_sort : SM := (sSeq (sIf (tTru (eUn (isiM "str") (eVar 0))) (sRet (eBin (inM false) (eVar 0) (eTup (aCons (eC (.str "if")) (aCons (eC (.str "loop")) aNil))))) sNil) (sSeq (sIf (tOrM (tNotM (tTru (eUn (isiM "tuple") (eVar 0)))) (tOrM (tV (eBin neM (eCL (L1 lenM) (aCons (eVar 0) aNil)) (eC (.int 2)))) (tNotM (tTru (eUn (isiM "str") (eBin idxM (eVar 0) (eC (.int 0)))))))) (sRet (eC (.bl false))) sNil) (sRet (eAnd (eBin eqM (eBin idxM (eVar 0) (eC (.int 0))) (eC (.str "fun"))) (eF 1 M__law_is_kind (aCons (eBin idxM (eVar 0) (eC (.int 1))) aNil))))))
def M__law_is_sort : List D → M D := runB 1 b__law_is_sort
theorem t__law_is_sort (g : Gd Hd.fa Hd.fn Hd.ex K mg base) : Fnc P w K mg base 3 "_law_is_sort" 1 M__law_is_sort := by
  have hN : (["_law_item_here"] : List Str).Nodup := by decide +kernel
  obtain ⟨fd, F⟩ := g.says.def_ 19 (d := Hd.d__law_is_sort) rfl
  exact fnc_of (ps := ["_law_item_here"]) F (g.glo 19) rfl (fnC (N := ["_law_item_here"]) F (scope_ok (by decide +kernel)) fun cdv A outer s g0 H E d gd => (rss_cons (rs_if (rt_tru (re_isi isi_str rfl (g.free 33) rfl (g.free 42) (by decide +kernel) (re_var 0))) (rss_one (rs_ret (re_cmp (c_in d.units) (re_var 0) (re_tup (ra_cons re_str (ra_cons re_str ra_nil)))))) rss_nil) (rss_cons (rs_if (RW.rt (rw_or (rt_not (rt_tru (re_isi isi_tuple rfl (g.free 33) rfl (g.free 36) (by decide +kernel) (re_var 0)))) (rw_or (rt_cmp (c_ne d.u64) (re_callB b_len rfl (g.free 32) (by decide +kernel) (ra_cons (re_var 0) ra_nil)) re_int) (rw_or1 (rt_not (rt_tru (re_isi isi_str rfl (g.free 33) rfl (g.free 42) (by decide +kernel) (re_ix (re_var 0) re_int)))))))) (rss_one (rs_ret re_bl)) rss_nil) (rss_one (rs_ret (re_and (re_cmp (c_eq d.u64) (re_ix (re_var 0) re_int) re_str) (re_one (re_f (t__law_is_kind g) d.cal gd (by decide) rfl (ra_cons (re_ix (re_var 0) re_int) ra_nil))))))))) (fun kV doc pm an cdv ct us h => by
    match us, h with
    | [u0], _ => rfl)
def b__law_is_item : SM := (sSeq (sIf (tOrM (tNotM (tTru (eUn (isiM "tuple") (eVar 0)))) (tOrM (tV (eBin eqM (eCL (L1 lenM) (aCons (eVar 0) aNil)) (eC (.int 0)))) (tNotM (tTru (eUn (isiM "str") (eBin idxM (eVar 0) (eC (.int 0)))))))) (sRet (eC (.bl false))) sNil) (sSeq (sIf (tV (eBin (inM false) (eBin idxM (eVar 0) (eC (.int 0))) (eTup (aCons (eC (.str "end")) (aCons (eC (.str "stop")) aNil))))) (sRet (eBin eqM (eCL (L1 lenM) (aCons (eVar 0) aNil)) (eC (.int 1)))) sNil) (sSeq (sIf (tV (eBin eqM (eBin idxM (eVar 0) (eC (.int 0))) (eC (.str "open")))) (sRet (eAnd (eBin eqM (eCL (L1 lenM) (aCons (eVar 0) aNil)) (eC (.int 2))) (eF 1 M__law_is_sort (aCons (eBin idxM (eVar 0) (eC (.int 1))) aNil)))) sNil) (sSeq (sIf (tV (eBin eqM (eBin idxM (eVar 0) (eC (.int 0))) (eC (.str "give")))) (sRet (eAnd (eBin eqM (eCL (L1 lenM) (aCons (eVar 0) aNil)) (eC (.int 2))) (eF 1 M__law_is_kind (aCons (eBin idxM (eVar 0) (eC (.int 1))) aNil)))) sNil) (sRet (eAnd (eBin (inM false) (eBin idxM (eVar 0) (eC (.int 0))) (eTup (aCons (eC (.str "let")) (aCons (eC (.str "use")) aNil)))) (eAnd (eBin eqM (eCL (L1 lenM) (aCons (eVar 0) aNil)) (eC (.int 3))) (eAnd (eF 1 M__law_is_name (aCons (eBin idxM (eVar 0) (eC (.int 1))) aNil)) (eF 1 M__law_is_name (aCons (eBin idxM (eVar 0) (eC (.int 2))) aNil))))))))))
def M__law_is_item : List D → M D := runB 1 b__law_is_item
theorem t__law_is_item (g : Gd Hd.fa Hd.fn Hd.ex K mg base) : Fnc P w K mg base 4 "_law_is_item" 1 M__law_is_item := by
  have hN : (["_law_item_here"] : List Str).Nodup := by decide +kernel
  obtain ⟨fd, F⟩ := g.says.def_ 20 (d := Hd.d__law_is_item) rfl
  exact fnc_of (ps := ["_law_item_here"]) F (g.glo 20) rfl (fnC (N := ["_law_item_here"]) F (scope_ok (by decide +kernel)) fun cdv A outer s g0 H E d gd => (rss_cons (rs_if (RW.rt (rw_or (rt_not (rt_tru (re_isi isi_tuple rfl (g.free 33) rfl (g.free 36) (by decide +kernel) (re_var 0)))) (rw_or (rt_cmp (c_eq d.u64) (re_callB b_len rfl (g.free 32) (by decide +kernel) (ra_cons (re_var 0) ra_nil)) re_int) (rw_or1 (rt_not (rt_tru (re_isi isi_str rfl (g.free 33) rfl (g.free 42) (by decide +kernel) (re_ix (re_var 0) re_int)))))))) (rss_one (rs_ret re_bl)) rss_nil) (rss_cons (rs_if (rt_cmp (c_in d.units) (re_ix (re_var 0) re_int) (re_tup (ra_cons re_str (ra_cons re_str ra_nil)))) (rss_one (rs_ret (re_cmp (c_eq d.u64) (re_callB b_len rfl (g.free 32) (by decide +kernel) (ra_cons (re_var 0) ra_nil)) re_int))) rss_nil) (rss_cons (rs_if (rt_cmp (c_eq d.u64) (re_ix (re_var 0) re_int) re_str) (rss_one (rs_ret (re_and (re_cmp (c_eq d.u64) (re_callB b_len rfl (g.free 32) (by decide +kernel) (ra_cons (re_var 0) ra_nil)) re_int) (re_one (re_f (t__law_is_sort g) d.cal gd (by decide) rfl (ra_cons (re_ix (re_var 0) re_int) ra_nil)))))) rss_nil) (rss_cons (rs_if (rt_cmp (c_eq d.u64) (re_ix (re_var 0) re_int) re_str) (rss_one (rs_ret (re_and (re_cmp (c_eq d.u64) (re_callB b_len rfl (g.free 32) (by decide +kernel) (ra_cons (re_var 0) ra_nil)) re_int) (re_one (re_f (t__law_is_kind g) d.cal gd (by decide) rfl (ra_cons (re_ix (re_var 0) re_int) ra_nil)))))) rss_nil) (rss_one (rs_ret (re_and (re_cmp (c_in d.units) (re_ix (re_var 0) re_int) (re_tup (ra_cons re_str (ra_cons re_str ra_nil)))) (re_and (re_cmp (c_eq d.u64) (re_callB b_len rfl (g.free 32) (by decide +kernel) (ra_cons (re_var 0) ra_nil)) re_int) (re_and (re_f (t__law_is_name g) d.cal gd (by decide) rfl (ra_cons (re_ix (re_var 0) re_int) ra_nil)) (re_one (re_f (t__law_is_name g) d.cal gd (by decide) rfl (ra_cons (re_ix (re_var 0) re_int) ra_nil))))))))))))) (fun kV doc pm an cdv ct us h => by
    match us, h with
    | [u0], _ => rfl)
def b__law_is_page : SM := (sRet (eAnd (eUn (isiM "tuple") (eVar 0)) (eBin eqM (eN (nComp [1] (iAny (eVar 0)) (gN 1) (tNotM (tTru (eF 1 M__law_is_item (aCons (eVar 1) aNil)))) (eVar 1))) (eN (nLst aNil)))))
def M__law_is_page : List D → M D := runB 2 b__law_is_page
theorem t__law_is_page (g : Gd Hd.fa Hd.fn Hd.ex K mg base) : Fnc P w K mg base 5 "_law_is_page" 1 M__law_is_page := by
  have hN : (["_law_item_here", "_law_one"] : List Str).Nodup := by decide +kernel
  obtain ⟨fd, F⟩ := g.says.def_ 21 (d := Hd.d__law_is_page) rfl
  exact fnc_of (ps := ["_law_item_here"]) F (g.glo 21) rfl (fnC (N := ["_law_item_here", "_law_one"]) F (scope_ok (by decide +kernel)) fun cdv A outer s g0 H E d gd => (rss_one (rs_ret (re_and (re_isi isi_tuple rfl (g.free 33) rfl (g.free 36) (by decide +kernel) (re_var 0)) (re_one (re_cmp (c_eq d.u64) (re_n (rn_comp [("_law_one", 1)] rfl hN (ri_any (re_var 0)) (blkOk_by (by kernel_rfl)) (by decide) (fun _ _ _ _ _ => (rg_name 1 hN)) (fun _ _ _ _ _ => (rts_one (rt_not (rt_tru (re_f (t__law_is_item g) (cal_b d.cal _ _ _ _ _) gd (by decide) rfl (ra_cons (re_var 1) ra_nil)))))) (fun _ _ _ _ _ => (re_var 1)))) (re_n (rn_lst ra_nil)))))))) (fun kV doc pm an cdv ct us h => by
    match us, h with
    | [u0], _ => rfl)
def b__law_is_set : SM := (sSeq (sIf (tOrM (tNotM (tTru (eUn (isiM "tuple") (eVar 0)))) (tV (eBin neM (eN (nComp [1] (iAny (eVar 0)) (gN 1) (tNotM (tTru (eF 1 M__law_is_number (aCons (eVar 1) aNil)))) (eVar 1))) (eN (nLst aNil))))) (sRet (eC (.bl false))) sNil) (sRet (eBin eqM (eN (nCL (L1N listN) (aCons (eVar 0) aNil))) (eN (nUn sSetN (eVar 0))))))
def M__law_is_set : List D → M D := runB 2 b__law_is_set
theorem t__law_is_set (g : Gd Hd.fa Hd.fn Hd.ex K mg base) : Fnc P w K mg base 2 "_law_is_set" 1 M__law_is_set := by
  have hN : (["_law_item_here", "_law_one"] : List Str).Nodup := by decide +kernel
  obtain ⟨fd, F⟩ := g.says.def_ 22 (d := Hd.d__law_is_set) rfl
  exact fnc_of (ps := ["_law_item_here"]) F (g.glo 22) rfl (fnC (N := ["_law_item_here", "_law_one"]) F (scope_ok (by decide +kernel)) fun cdv A outer s g0 H E d gd => (rss_cons (rs_if (RW.rt (rw_or (rt_not (rt_tru (re_isi isi_tuple rfl (g.free 33) rfl (g.free 36) (by decide +kernel) (re_var 0)))) (rw_or1 (rt_cmp (c_ne d.u64) (re_n (rn_comp [("_law_one", 1)] rfl hN (ri_any (re_var 0)) (blkOk_by (by kernel_rfl)) (by decide) (fun _ _ _ _ _ => (rg_name 1 hN)) (fun _ _ _ _ _ => (rts_one (rt_not (rt_tru (re_f (t__law_is_number g) (cal_b d.cal _ _ _ _ _) gd (by decide) rfl (ra_cons (re_var 1) ra_nil)))))) (fun _ _ _ _ _ => (re_var 1)))) (re_n (rn_lst ra_nil)))))) (rss_one (rs_ret re_bl)) rss_nil) (rss_one (rs_ret (re_cmp (c_eq d.u64) (re_n (rn_callTy b_list rfl (g.free 37) (by decide +kernel) (ra_cons (re_var 0) ra_nil))) (re_n (rn_sortedSet rfl (re_var 0) rfl (g.free 38) rfl (g.free 39)))))))) (fun kV doc pm an cdv ct us h => by
    match us, h with
    | [u0], _ => rfl)
def b__law_is_sign : SM := (sSeq (sIf (tOrM (tNotM (tTru (eUn (isiM "tuple") (eVar 0)))) (tOrM (tV (eBin neM (eCL (L1 lenM) (aCons (eVar 0) aNil)) (eC (.int 2)))) (tOrM (tNotM (tTru (eF 1 M__law_is_number (aCons (eBin idxM (eVar 0) (eC (.int 0))) aNil)))) (tNotM (tTru (eUn (isiM "str") (eBin idxM (eVar 0) (eC (.int 1))))))))) (sRet (eC (.bl false))) sNil) (sRet (eBin (inM false) (eBin idxM (eVar 0) (eC (.int 1))) (eN (nLst (aCons (eC (.str "use")) (aCons (eC (.str "unused")) (aCons (eC (.str "twice")) (aCons (eC (.str "stop")) (aCons (eC (.str "give")) (aCons (eC (.str "after")) (aCons (eC (.str "falls")) (aCons (eC (.str "open")) (aCons (eC (.str "end")) aNil))))))))))))))
def M__law_is_sign : List D → M D := runB 1 b__law_is_sign
theorem t__law_is_sign (g : Gd Hd.fa Hd.fn Hd.ex K mg base) : Fnc P w K mg base 2 "_law_is_sign" 1 M__law_is_sign := by
  have hN : (["_law_item_here"] : List Str).Nodup := by decide +kernel
  obtain ⟨fd, F⟩ := g.says.def_ 23 (d := Hd.d__law_is_sign) rfl
  exact fnc_of (ps := ["_law_item_here"]) F (g.glo 23) rfl (fnC (N := ["_law_item_here"]) F (scope_ok (by decide +kernel)) fun cdv A outer s g0 H E d gd => (rss_cons (rs_if (RW.rt (rw_or (rt_not (rt_tru (re_isi isi_tuple rfl (g.free 33) rfl (g.free 36) (by decide +kernel) (re_var 0)))) (rw_or (rt_cmp (c_ne d.u64) (re_callB b_len rfl (g.free 32) (by decide +kernel) (ra_cons (re_var 0) ra_nil)) re_int) (rw_or (rt_not (rt_tru (re_f (t__law_is_number g) d.cal gd (by decide) rfl (ra_cons (re_ix (re_var 0) re_int) ra_nil)))) (rw_or1 (rt_not (rt_tru (re_isi isi_str rfl (g.free 33) rfl (g.free 42) (by decide +kernel) (re_ix (re_var 0) re_int))))))))) (rss_one (rs_ret re_bl)) rss_nil) (rss_one (rs_ret (re_cmp (c_in d.units) (re_ix (re_var 0) re_int) (re_n (rn_lst (ra_cons re_str (ra_cons re_str (ra_cons re_str (ra_cons re_str (ra_cons re_str (ra_cons re_str (ra_cons re_str (ra_cons re_str (ra_cons re_str ra_nil)))))))))))))))) (fun kV doc pm an cdv ct us h => by
    match us, h with
    | [u0], _ => rfl)
def b__law_is_put : SM := (sSeq (sIf (tNotM (tTru (eUn (isiM "tuple") (eVar 0)))) (sRet (eC (.bl false))) sNil) (sSeq (sSet 1 (eUn negM (eC (.int 1)))) (sSeq (sFor (iAny (eVar 0)) (gN 2) (sSeq (sIf (tOrM (tNotM (tTru (eUn (isiM "tuple") (eVar 2)))) (tOrM (tV (eBin neM (eCL (L1 lenM) (aCons (eVar 2) aNil)) (eC (.int 2)))) (tOrM (tNotM (tTru (eF 1 M__law_is_number (aCons (eBin idxM (eVar 2) (eC (.int 0))) aNil)))) (tV (eBin leM (eBin idxM (eVar 2) (eC (.int 0))) (eVar 1)))))) (sRet (eC (.bl false))) sNil) (sSeq (sIf (tOrM (tNotM (tTru (eF 1 M__law_is_page (aCons (eBin idxM (eVar 2) (eC (.int 1))) aNil)))) (tV (eBin eqM (eCL (L1 lenM) (aCons (eBin idxM (eVar 2) (eC (.int 1))) aNil)) (eC (.int 0))))) (sRet (eC (.bl false))) sNil) (sSet 1 (eBin idxM (eVar 2) (eC (.int 0))))))) (sRet (eC (.bl true))))))
def M__law_is_put : List D → M D := runB 3 b__law_is_put
theorem t__law_is_put (g : Gd Hd.fa Hd.fn Hd.ex K mg base) : Fnc P w K mg base 6 "_law_is_put" 1 M__law_is_put := by
  have hN : (["_law_item_here", "_law_before", "_law_one"] : List Str).Nodup := by decide +kernel
  obtain ⟨fd, F⟩ := g.says.def_ 24 (d := Hd.d__law_is_put) rfl
  exact fnc_of (ps := ["_law_item_here"]) F (g.glo 24) rfl (fnC (N := ["_law_item_here", "_law_before", "_law_one"]) F (scope_ok (by decide +kernel)) fun cdv A outer s g0 H E d gd => (rss_cons (rs_if (rt_not (rt_tru (re_isi isi_tuple rfl (g.free 33) rfl (g.free 36) (by decide +kernel) (re_var 0)))) (rss_one (rs_ret re_bl)) rss_nil) (rss_cons (rs_set 1 hN (re_un u_neg re_int)) (rss_cons (rs_for d.po rfl (ri_any (re_var 0)) (rg_name 2 hN) (rss_cons (rs_if (RW.rt (rw_or (rt_not (rt_tru (re_isi isi_tuple rfl (g.free 33) rfl (g.free 36) (by decide +kernel) (re_var 2)))) (rw_or (rt_cmp (c_ne d.u64) (re_callB b_len rfl (g.free 32) (by decide +kernel) (ra_cons (re_var 2) ra_nil)) re_int) (rw_or (rt_not (rt_tru (re_f (t__law_is_number g) d.cal gd (by decide) rfl (ra_cons (re_ix (re_var 2) re_int) ra_nil)))) (rw_or1 (rt_cmp c_le (re_ix (re_var 2) re_int) (re_var 1))))))) (rss_one (rs_ret re_bl)) rss_nil) (rss_cons (rs_if (RW.rt (rw_or (rt_not (rt_tru (re_f (t__law_is_page g) d.cal gd (by decide) rfl (ra_cons (re_ix (re_var 2) re_int) ra_nil)))) (rw_or1 (rt_cmp (c_eq d.u64) (re_callB b_len rfl (g.free 32) (by decide +kernel) (ra_cons (re_ix (re_var 2) re_int) ra_nil)) re_int)))) (rss_one (rs_ret re_bl)) rss_nil) (rss_one (rs_set 1 hN (re_ix (re_var 2) re_int)))))) (rss_one (rs_ret re_bl)))))) (fun kV doc pm an cdv ct us h => by
    match us, h with
    | [u0], _ => rfl)
def b__law_strange : SM := (sSeq (sOwn 1 (nLst (aCons (eC .non) (aCons (eC (.bl true)) (aCons (eC (.bl false)) (aCons (eUn negM (eC (.int 1))) (aCons (eC (.int 0)) (aCons (eC (.int 1)) (aCons (eC (.int 2)) (aCons (eC (.int 7)) (aCons (eBin powM (eC (.int 10)) (eC (.int 59))) (aCons (eC (.str "")) (aCons (eC (.str "a")) (aCons (eC (.str "abcdefgh")) (aCons (eC (.str "abcdefghi")) (aCons (eC (.str "A")) (aCons (eC (.str "a b")) (aCons (eC (.str "x-")) (aCons (eC (.str "-")) aNil))))))))))))))))))) (sSeq (sExt 1 (eN (nLst (aCons (eC (.str "if")) (aCons (eC (.str "loop")) (aCons (eC (.str "fun")) (aCons (eC (.str "end")) (aCons (eC (.str "open")) (aCons (eTup aNil) (aCons (eN (nLst aNil)) (aCons (eTup (aCons (eC (.str "end")) aNil)) (aCons (eN (nLst (aCons (eC (.str "end")) aNil))) (aCons (eTup (aCons (eC (.str "stop")) aNil)) (aCons (eTup (aCons (eC (.str "stop")) (aCons (eC (.int 1)) aNil))) (aCons (eTup (aCons (eC (.str "end")) (aCons (eC (.str "end")) aNil))) aNil))))))))))))))) (sSeq (sExt 1 (eN (nLst (aCons (eTup (aCons (eC (.str "let")) (aCons (eC (.str "x")) aNil))) (aCons (eTup (aCons (eC (.str "let")) (aCons (eC (.str "x")) (aCons (eC (.str "")) aNil)))) (aCons (eTup (aCons (eC (.str "use")) (aCons (eC (.str "x")) (aCons (eC (.str "num")) aNil)))) (aCons (eTup (aCons (eC (.str "give")) aNil)) (aCons (eTup (aCons (eC (.str "give")) (aCons (eC (.str "")) aNil))) (aCons (eTup (aCons (eC (.str "give")) (aCons (eC (.str "num")) (aCons (eC (.str "num")) aNil)))) aNil))))))))) (sSeq (sExt 1 (eN (nLst (aCons (eTup (aCons (eC (.str "open")) aNil)) (aCons (eTup (aCons (eC (.str "open")) (aCons (eC (.str "if")) aNil))) (aCons (eTup (aCons (eC (.str "open")) (aCons (eC (.str "fun")) aNil))) (aCons (eTup (aCons (eC (.str "open")) (aCons (eTup (aCons (eC (.str "fun")) aNil)) aNil))) (aCons (eTup (aCons (eC (.str "open")) (aCons (eTup (aCons (eC (.str "fun")) (aCons (eC (.str "")) aNil))) aNil))) (aCons (eTup (aCons (eC (.str "fun")) (aCons (eC (.str "")) aNil))) aNil))))))))) (sSeq (sExt 1 (eN (nLst (aCons (eTup (aCons (eC (.str "open")) (aCons (eTup (aCons (eC (.str "loop")) (aCons (eC (.str "")) aNil))) aNil))) (aCons (eTup (aCons (eC (.str "open")) (aCons (eN (nLst (aCons (eC (.str "fun")) (aCons (eC (.str "")) aNil)))) aNil))) (aCons (eTup (aCons (eC (.str "open")) (aCons (eC (.str "if")) (aCons (eC (.str "if")) aNil)))) (aCons (eTup (aCons (eC (.str "use")) (aCons (eC (.str "X")) (aCons (eC (.str "num")) aNil)))) (aCons (eTup (aCons (eC (.str "fun")) (aCons (eC (.int 1)) aNil))) aNil)))))))) (sSeq (sExt 1 (eN (nLst (aCons (eTup (aCons (eC (.int 0)) aNil)) (aCons (eTup (aCons (eC (.int 0)) (aCons (eC (.int 1)) aNil))) (aCons (eTup (aCons (eC (.int 1)) (aCons (eC (.int 0)) aNil))) (aCons (eTup (aCons (eC (.int 1)) (aCons (eC (.int 1)) aNil))) (aCons (eTup (aCons (eC (.int 0)) (aCons (eC (.bl true)) aNil))) (aCons (eTup (aCons (eC (.int 0)) (aCons (eC (.str "use")) aNil))) (aCons (eTup (aCons (eC (.int 3)) (aCons (eC (.str "unused")) aNil))) (aCons (eTup (aCons (eC (.bl true)) (aCons (eC (.str "use")) aNil))) (aCons (eTup (aCons (eC (.int 0)) (aCons (eC (.str "let")) aNil))) aNil)))))))))))) (sSeq (sExt 1 (eN (nLst (aCons (eTup (aCons (eUn negM (eC (.int 1))) (aCons (eC (.str "end")) aNil))) (aCons (eTup (aCons (eC (.int 0)) (aCons (eTup (aCons (eC (.str "end")) aNil)) aNil))) (aCons (eTup (aCons (eTup (aCons (eC (.int 0)) (aCons (eTup (aCons (eTup (aCons (eC (.str "end")) aNil)) aNil)) aNil))) aNil)) (aCons (eTup (aCons (eTup (aCons (eC (.int 0)) (aCons (eTup aNil) aNil))) aNil)) (aCons (eTup (aCons (eTup (aCons (eC (.int 1)) (aCons (eTup (aCons (eTup (aCons (eC (.str "end")) aNil)) aNil)) aNil))) (aCons (eTup (aCons (eC (.int 0)) (aCons (eTup (aCons (eTup (aCons (eC (.str "end")) aNil)) aNil)) aNil))) aNil))) aNil)))))))) (sSeq (sExt 1 (eN (nLst (aCons (eTup (aCons (eTup (aCons (eC (.str "end")) aNil)) aNil)) (aCons (eTup (aCons (eTup (aCons (eC (.str "end")) aNil)) (aCons (eTup (aCons (eC (.str "stop")) aNil)) aNil))) (aCons (eN (nLst (aCons (eTup (aCons (eC (.str "end")) aNil)) aNil))) (aCons (eTup (aCons (eTup (aCons (eC (.str "end")) aNil)) (aCons (eC .non) aNil))) (aCons (eTup (aCons (eC (.str "let")) (aCons (eC (.str "a")) (aCons (eC (.str "b")) (aCons (eC (.str "c")) aNil))))) (aCons (eC (.str "use")) aNil))))))))) (sFrz 1 (sRet (eF 2 M__law_pick (aCons (eVar 0) (aCons (eVar 1) aNil)))))))))))))
def M__law_strange : List D → M D := runB 2 b__law_strange
theorem t__law_strange (g : Gd Hd.fa Hd.fn Hd.ex K mg base) : Fnc P w K mg base 3 "_law_strange" 1 M__law_strange := by
  have hN : (["_law_feed_here", "_law_some"] : List Str).Nodup := by decide +kernel
  obtain ⟨fd, F⟩ := g.says.def_ 25 (d := Hd.d__law_strange) rfl
  exact fnc_of (ps := ["_law_feed_here"]) F (g.glo 25) rfl (fnC (N := ["_law_feed_here", "_law_some"]) F (scope_ok (by decide +kernel)) fun cdv A outer s g0 H E d gd => (rss_cons (rs_own 1 hN (rn_lst (ra_cons re_non (ra_cons re_bl (ra_cons re_bl (ra_cons (re_un u_neg re_int) (ra_cons re_int (ra_cons re_int (ra_cons re_int (ra_cons re_int (ra_cons (re_bin o_pow re_int re_int) (ra_cons re_str (ra_cons re_str (ra_cons re_str (ra_cons re_str (ra_cons re_str (ra_cons re_str (ra_cons re_str (ra_cons re_str ra_nil))))))))))))))))))) (rss_cons (rs_extend 1 (re_n (rn_lst (ra_cons re_str (ra_cons re_str (ra_cons re_str (ra_cons re_str (ra_cons re_str (ra_cons (re_tup ra_nil) (ra_cons (re_n (rn_lst ra_nil)) (ra_cons (re_tup (ra_cons re_str ra_nil)) (ra_cons (re_n (rn_lst (ra_cons re_str ra_nil))) (ra_cons (re_tup (ra_cons re_str ra_nil)) (ra_cons (re_tup (ra_cons re_str (ra_cons re_int ra_nil))) (ra_cons (re_tup (ra_cons re_str (ra_cons re_str ra_nil))) ra_nil))))))))))))))) (rss_cons (rs_extend 1 (re_n (rn_lst (ra_cons (re_tup (ra_cons re_str (ra_cons re_str ra_nil))) (ra_cons (re_tup (ra_cons re_str (ra_cons re_str (ra_cons re_str ra_nil)))) (ra_cons (re_tup (ra_cons re_str (ra_cons re_str (ra_cons re_str ra_nil)))) (ra_cons (re_tup (ra_cons re_str ra_nil)) (ra_cons (re_tup (ra_cons re_str (ra_cons re_str ra_nil))) (ra_cons (re_tup (ra_cons re_str (ra_cons re_str (ra_cons re_str ra_nil)))) ra_nil))))))))) (rss_cons (rs_extend 1 (re_n (rn_lst (ra_cons (re_tup (ra_cons re_str ra_nil)) (ra_cons (re_tup (ra_cons re_str (ra_cons re_str ra_nil))) (ra_cons (re_tup (ra_cons re_str (ra_cons re_str ra_nil))) (ra_cons (re_tup (ra_cons re_str (ra_cons (re_tup (ra_cons re_str ra_nil)) ra_nil))) (ra_cons (re_tup (ra_cons re_str (ra_cons (re_tup (ra_cons re_str (ra_cons re_str ra_nil))) ra_nil))) (ra_cons (re_tup (ra_cons re_str (ra_cons re_str ra_nil))) ra_nil))))))))) (rss_cons (rs_extend 1 (re_n (rn_lst (ra_cons (re_tup (ra_cons re_str (ra_cons (re_tup (ra_cons re_str (ra_cons re_str ra_nil))) ra_nil))) (ra_cons (re_tup (ra_cons re_str (ra_cons (re_n (rn_lst (ra_cons re_str (ra_cons re_str ra_nil)))) ra_nil))) (ra_cons (re_tup (ra_cons re_str (ra_cons re_str (ra_cons re_str ra_nil)))) (ra_cons (re_tup (ra_cons re_str (ra_cons re_str (ra_cons re_str ra_nil)))) (ra_cons (re_tup (ra_cons re_str (ra_cons re_int ra_nil))) ra_nil)))))))) (rss_cons (rs_extend 1 (re_n (rn_lst (ra_cons (re_tup (ra_cons re_int ra_nil)) (ra_cons (re_tup (ra_cons re_int (ra_cons re_int ra_nil))) (ra_cons (re_tup (ra_cons re_int (ra_cons re_int ra_nil))) (ra_cons (re_tup (ra_cons re_int (ra_cons re_int ra_nil))) (ra_cons (re_tup (ra_cons re_int (ra_cons re_bl ra_nil))) (ra_cons (re_tup (ra_cons re_int (ra_cons re_str ra_nil))) (ra_cons (re_tup (ra_cons re_int (ra_cons re_str ra_nil))) (ra_cons (re_tup (ra_cons re_bl (ra_cons re_str ra_nil))) (ra_cons (re_tup (ra_cons re_int (ra_cons re_str ra_nil))) ra_nil)))))))))))) (rss_cons (rs_extend 1 (re_n (rn_lst (ra_cons (re_tup (ra_cons (re_un u_neg re_int) (ra_cons re_str ra_nil))) (ra_cons (re_tup (ra_cons re_int (ra_cons (re_tup (ra_cons re_str ra_nil)) ra_nil))) (ra_cons (re_tup (ra_cons (re_tup (ra_cons re_int (ra_cons (re_tup (ra_cons (re_tup (ra_cons re_str ra_nil)) ra_nil)) ra_nil))) ra_nil)) (ra_cons (re_tup (ra_cons (re_tup (ra_cons re_int (ra_cons (re_tup ra_nil) ra_nil))) ra_nil)) (ra_cons (re_tup (ra_cons (re_tup (ra_cons re_int (ra_cons (re_tup (ra_cons (re_tup (ra_cons re_str ra_nil)) ra_nil)) ra_nil))) (ra_cons (re_tup (ra_cons re_int (ra_cons (re_tup (ra_cons (re_tup (ra_cons re_str ra_nil)) ra_nil)) ra_nil))) ra_nil))) ra_nil)))))))) (rss_cons (rs_extend 1 (re_n (rn_lst (ra_cons (re_tup (ra_cons (re_tup (ra_cons re_str ra_nil)) ra_nil)) (ra_cons (re_tup (ra_cons (re_tup (ra_cons re_str ra_nil)) (ra_cons (re_tup (ra_cons re_str ra_nil)) ra_nil))) (ra_cons (re_n (rn_lst (ra_cons (re_tup (ra_cons re_str ra_nil)) ra_nil))) (ra_cons (re_tup (ra_cons (re_tup (ra_cons re_str ra_nil)) (ra_cons re_non ra_nil))) (ra_cons (re_tup (ra_cons re_str (ra_cons re_str (ra_cons re_str (ra_cons re_str ra_nil))))) (ra_cons re_str ra_nil))))))))) (rss_one (rs_frz 1 (rs_ret (re_f (t__law_pick g) d.cal gd (by decide) rfl (ra_cons (re_var 0) (ra_cons (re_var 1) ra_nil))))))))))))))) (fun kV doc pm an cdv ct us h => by
    match us, h with
    | [u0], _ => rfl)
def b__law_bent (rec : List D → M D) : SM := (sSeq (sIf (tAndM (tTru (eUn (isiM "tuple") (eVar 1))) (tAndM (tV (eBin gtM (eCL (L1 lenM) (aCons (eVar 1) aNil)) (eC (.int 0)))) (tV (eBin gtM (eF 2 M__law_draw (aCons (eVar 0) (aCons (eC (.int 5)) aNil))) (eC (.int 0)))))) (sSeq (sSet 4 (eF 2 M__law_draw (aCons (eVar 0) (aCons (eCL (L1 lenM) (aCons (eVar 1) aNil)) aNil)))) (sRet (eBin addM (eBin addM (eSl (eVar 1) pNo (pSome (eVar 4))) (eTup (aCons (eF 2 rec (aCons (eVar 0) (aCons (eBin idxM (eVar 1) (eVar 4)) aNil))) aNil))) (eSl (eVar 1) (pSome (eBin addM (eVar 4) (eC (.int 1)))) pNo)))) sNil) (sSeq (sPar 2 3 (aCons (eF 2 M__law_draw (aCons (eVar 0) (aCons (eC (.int 7)) aNil))) (aCons (eF 1 M__law_strange (aCons (eVar 0) aNil)) aNil))) (sSeq (sIf (tAndM (tTru (eUn (isiM "tuple") (eVar 1))) (tV (eBin ltM (eVar 2) (eC (.int 6))))) (sSeq (sSet 4 (eF 2 M__law_draw (aCons (eVar 0) (aCons (eBin addM (eCL (L1 lenM) (aCons (eVar 1) aNil)) (eC (.int 1))) aNil)))) (sSeq (sIf (tV (eBin eqM (eVar 2) (eC (.int 0)))) (sRet (eN (nCL (L1N listN) (aCons (eVar 1) aNil)))) sNil) (sSeq (sIf (tV (eBin eqM (eVar 2) (eC (.int 1)))) (sRet (eBin addM (eSl (eVar 1) pNo (pSome (eVar 4))) (eSl (eVar 1) (pSome (eBin addM (eVar 4) (eC (.int 1)))) pNo))) sNil) (sSeq (sIf (tV (eBin eqM (eVar 2) (eC (.int 2)))) (sRet (eBin addM (eBin addM (eSl (eVar 1) pNo (pSome (eVar 4))) (eSl (eVar 1) (pSome (eVar 4)) (pSome (eBin addM (eVar 4) (eC (.int 1)))))) (eSl (eVar 1) (pSome (eVar 4)) pNo))) sNil) (sRet (eIf (tV (eBin ltM (eVar 2) (eC (.int 5)))) (eBin addM (eBin addM (eSl (eVar 1) pNo (pSome (eVar 4))) (eTup (aCons (eVar 3) aNil))) (eSl (eVar 1) (pSome (eVar 4)) pNo)) (eUn revM (eVar 1)))))))) sNil) (sSeq (sIf (tAndM (tTru (eUn (isiM "str") (eVar 1))) (tV (eBin ltM (eVar 2) (eC (.int 5))))) (sSeq (sSet 4 (eF 2 M__law_draw (aCons (eVar 0) (aCons (eBin addM (eCL (L1 lenM) (aCons (eVar 1) aNil)) (eC (.int 1))) aNil)))) (sRet (eBin addM (eBin addM (eSl (eVar 1) pNo (pSome (eVar 4))) (eF 2 M__law_pick (aCons (eVar 0) (aCons (eN (nLst (aCons (eC (.str "a")) (aCons (eC (.str "A")) (aCons (eC (.str "")) (aCons (eC (.str " ")) (aCons (eC (.str "z")) (aCons (eC (.str "0")) (aCons (eC (.str "-")) aNil))))))))) aNil)))) (eSl (eVar 1) (pSome (eBin addM (eVar 4) (eCL (L1 intM) (aCons (eBin gtM (eVar 2) (eC (.int 2))) aNil)))) pNo)))) sNil) (sSeq (sIf (tAndM (tTru (eF 1 M__law_is_number (aCons (eVar 1) aNil))) (tV (eBin ltM (eVar 2) (eC (.int 5))))) (sRet (eBin idxM (eN (nLst (aCons (eBin addM (eVar 1) (eC (.int 1))) (aCons (eBin subM (eVar 1) (eC (.int 1))) (aCons (eUn negM (eVar 1)) (aCons (eBin eqM (eVar 1) (eC (.int 1))) (aCons (eCL (L1 strM) (aCons (eVar 1) aNil)) aNil))))))) (eVar 2))) sNil) (sRet (eVar 3)))))))
def M__law_bent : Nat → List D → M D
  | 0 => fun _ => .bad
  | n + 1 => runB 5 (b__law_bent (M__law_bent n))
theorem t__law_bent (g : Gd Hd.fa Hd.fn Hd.ex K mg base) : ∀ n, Fnc P w K mg base (4 + n) "_law_bent" 2 (M__law_bent n)
  | 0 => by
    obtain ⟨fd, F⟩ := g.says.def_ 26 (d := Hd.d__law_bent) rfl
    exact fnc_of (ps := ["_law_feed_here", "_law_item_here"]) F (g.glo 26) rfl fn_bad (fun kV doc pm an cdv ct us h => by
      match us, h with
      | [u0, u1], _ => rfl)
  | n + 1 => by
    have ih := t__law_bent g n
    have hN : (["_law_feed_here", "_law_item_here", "_law_lot", "_law_strange_here", "_law_k"] : List Str).Nodup := by decide +kernel
    obtain ⟨fd, F⟩ := g.says.def_ 26 (d := Hd.d__law_bent) rfl
    exact fnc_of (ps := ["_law_feed_here", "_law_item_here"]) F (g.glo 26) rfl (fnC (N := ["_law_feed_here", "_law_item_here", "_law_lot", "_law_strange_here", "_law_k"]) F (scope_ok (by decide +kernel)) fun cdv A outer s g0 H E d gd => (rss_cons (rs_if (RW.rt (rw_and (rt_tru (re_isi isi_tuple rfl (g.free 33) rfl (g.free 36) (by decide +kernel) (re_var 1))) (rw_and (rt_cmp c_gt (re_callB b_len rfl (g.free 32) (by decide +kernel) (ra_cons (re_var 1) ra_nil)) re_int) (rw_and1 (rt_cmp c_gt (re_f (t__law_draw g) d.cal gd (Nat.le_trans (by decide : 1 ≤ 4) (Nat.le_add_right 4 n)) rfl (ra_cons (re_var 0) (ra_cons re_int ra_nil))) re_int))))) (rss_cons (rs_set 4 hN (re_f (t__law_draw g) d.cal gd (Nat.le_trans (by decide : 1 ≤ 4) (Nat.le_add_right 4 n)) rfl (ra_cons (re_var 0) (ra_cons (re_callB b_len rfl (g.free 32) (by decide +kernel) (ra_cons (re_var 1) ra_nil)) ra_nil)))) (rss_one (rs_ret (re_bin o_add (re_bin o_add (re_sl (re_var 1) ro_no (ro_some (re_var 4))) (re_tup (ra_cons (re_f ih d.cal gd (Nat.le_refl _) rfl (ra_cons (re_var 0) (ra_cons (re_ix (re_var 1) (re_var 4)) ra_nil))) ra_nil))) (re_sl (re_var 1) (ro_some (re_bin o_add (re_var 4) re_int)) ro_no))))) rss_nil) (rss_cons (rs_par 2 3 rfl hN (ra_cons (re_f (t__law_draw g) d.cal gd (Nat.le_trans (by decide : 1 ≤ 4) (Nat.le_add_right 4 n)) rfl (ra_cons (re_var 0) (ra_cons re_int ra_nil))) (ra_cons (re_f (t__law_strange g) d.cal gd (Nat.le_trans (by decide : 3 ≤ 4) (Nat.le_add_right 4 n)) rfl (ra_cons (re_var 0) ra_nil)) ra_nil))) (rss_cons (rs_if (RW.rt (rw_and (rt_tru (re_isi isi_tuple rfl (g.free 33) rfl (g.free 36) (by decide +kernel) (re_var 1))) (rw_and1 (rt_cmp c_lt (re_var 2) re_int)))) (rss_cons (rs_set 4 hN (re_f (t__law_draw g) d.cal gd (Nat.le_trans (by decide : 1 ≤ 4) (Nat.le_add_right 4 n)) rfl (ra_cons (re_var 0) (ra_cons (re_bin o_add (re_callB b_len rfl (g.free 32) (by decide +kernel) (ra_cons (re_var 1) ra_nil)) re_int) ra_nil)))) (rss_cons (rs_if (rt_cmp (c_eq d.u64) (re_var 2) re_int) (rss_one (rs_ret (re_n (rn_callTy b_list rfl (g.free 37) (by decide +kernel) (ra_cons (re_var 1) ra_nil))))) rss_nil) (rss_cons (rs_if (rt_cmp (c_eq d.u64) (re_var 2) re_int) (rss_one (rs_ret (re_bin o_add (re_sl (re_var 1) ro_no (ro_some (re_var 4))) (re_sl (re_var 1) (ro_some (re_bin o_add (re_var 4) re_int)) ro_no)))) rss_nil) (rss_cons (rs_if (rt_cmp (c_eq d.u64) (re_var 2) re_int) (rss_one (rs_ret (re_bin o_add (re_bin o_add (re_sl (re_var 1) ro_no (ro_some (re_var 4))) (re_sl (re_var 1) (ro_some (re_var 4)) (ro_some (re_bin o_add (re_var 4) re_int)))) (re_sl (re_var 1) (ro_some (re_var 4)) ro_no)))) rss_nil) (rss_one (rs_ret (re_if (rt_cmp c_lt (re_var 2) re_int) (re_bin o_add (re_bin o_add (re_sl (re_var 1) ro_no (ro_some (re_var 4))) (re_tup (ra_cons (re_var 3) ra_nil))) (re_sl (re_var 1) (ro_some (re_var 4)) ro_no)) (re_rev (re_var 1))))))))) rss_nil) (rss_cons (rs_if (RW.rt (rw_and (rt_tru (re_isi isi_str rfl (g.free 33) rfl (g.free 42) (by decide +kernel) (re_var 1))) (rw_and1 (rt_cmp c_lt (re_var 2) re_int)))) (rss_cons (rs_set 4 hN (re_f (t__law_draw g) d.cal gd (Nat.le_trans (by decide : 1 ≤ 4) (Nat.le_add_right 4 n)) rfl (ra_cons (re_var 0) (ra_cons (re_bin o_add (re_callB b_len rfl (g.free 32) (by decide +kernel) (ra_cons (re_var 1) ra_nil)) re_int) ra_nil)))) (rss_one (rs_ret (re_bin o_add (re_bin o_add (re_sl (re_var 1) ro_no (ro_some (re_var 4))) (re_f (t__law_pick g) d.cal gd (Nat.le_trans (by decide : 2 ≤ 4) (Nat.le_add_right 4 n)) rfl (ra_cons (re_var 0) (ra_cons (re_n (rn_lst (ra_cons re_str (ra_cons re_str (ra_cons re_str (ra_cons re_str (ra_cons re_str (ra_cons re_str (ra_cons re_str ra_nil))))))))) ra_nil)))) (re_sl (re_var 1) (ro_some (re_bin o_add (re_var 4) (re_callTy b_int rfl (g.free 41) (by decide +kernel) (ra_cons (re_cmp c_gt (re_var 2) re_int) ra_nil)))) ro_no))))) rss_nil) (rss_cons (rs_if (RW.rt (rw_and (rt_tru (re_f (t__law_is_number g) d.cal gd (Nat.le_trans (by decide : 1 ≤ 4) (Nat.le_add_right 4 n)) rfl (ra_cons (re_var 1) ra_nil))) (rw_and1 (rt_cmp c_lt (re_var 2) re_int)))) (rss_one (rs_ret (re_ix (re_n (rn_lst (ra_cons (re_bin o_add (re_var 1) re_int) (ra_cons (re_bin o_sub (re_var 1) re_int) (ra_cons (re_un u_neg (re_var 1)) (ra_cons (re_cmp (c_eq d.u64) (re_var 1) re_int) (ra_cons (re_callTy b_str rfl (g.free 42) (by decide +kernel) (ra_cons (re_var 1) ra_nil)) ra_nil))))))) (re_var 2)))) rss_nil) (rss_one (rs_ret (re_var 3))))))))) (fun kV doc pm an cdv ct us h => by
      match us, h with
      | [u0, u1], _ => rfl)
def b__law_due : SM := (sSeq (sSet 1 (eAnd (eUn (isiM "int") (eVar 0)) (eNot (eUn (isiM "bool") (eVar 0))))) (sSeq (sSet 2 (eN (nLst (aCons (eVar 1) (aCons (eF 1 M__law_is_number (aCons (eVar 0) aNil)) (aCons (eF 1 M__law_is_name (aCons (eVar 0) aNil)) (aCons (eF 1 M__law_is_kind (aCons (eVar 0) aNil)) (aCons (eF 1 M__law_is_sort (aCons (eVar 0) aNil)) aNil)))))))) (sRet (eBin addM (eVar 2) (eN (nLst (aCons (eF 1 M__law_is_item (aCons (eVar 0) aNil)) (aCons (eF 1 M__law_is_page (aCons (eVar 0) aNil)) (aCons (eF 1 M__law_is_set (aCons (eVar 0) aNil)) (aCons (eF 1 M__law_is_sign (aCons (eVar 0) aNil)) (aCons (eF 1 M__law_is_put (aCons (eVar 0) aNil)) aNil)))))))))))
def M__law_due : List D → M D := runB 3 b__law_due
theorem t__law_due (g : Gd Hd.fa Hd.fn Hd.ex K mg base) : Fnc P w K mg base 7 "_law_due" 1 M__law_due := by
  have hN : (["_law_item_here", "_law_whole", "_law_found"] : List Str).Nodup := by decide +kernel
  obtain ⟨fd, F⟩ := g.says.def_ 27 (d := Hd.d__law_due) rfl
  exact fnc_of (ps := ["_law_item_here"]) F (g.glo 27) rfl (fnC (N := ["_law_item_here", "_law_whole", "_law_found"]) F (scope_ok (by decide +kernel)) fun cdv A outer s g0 H E d gd => (rss_cons (rs_set 1 hN (re_and (re_isi isi_int rfl (g.free 33) rfl (g.free 41) (by decide +kernel) (re_var 0)) (re_one (re_not (re_isi isi_bool rfl (g.free 33) rfl (g.free 43) (by decide +kernel) (re_var 0)))))) (rss_cons (rs_set 2 hN (re_n (rn_lst (ra_cons (re_var 1) (ra_cons (re_f (t__law_is_number g) d.cal gd (by decide) rfl (ra_cons (re_var 0) ra_nil)) (ra_cons (re_f (t__law_is_name g) d.cal gd (by decide) rfl (ra_cons (re_var 0) ra_nil)) (ra_cons (re_f (t__law_is_kind g) d.cal gd (by decide) rfl (ra_cons (re_var 0) ra_nil)) (ra_cons (re_f (t__law_is_sort g) d.cal gd (by decide) rfl (ra_cons (re_var 0) ra_nil)) ra_nil)))))))) (rss_one (rs_ret (re_bin o_add (re_var 2) (re_n (rn_lst (ra_cons (re_f (t__law_is_item g) d.cal gd (by decide) rfl (ra_cons (re_var 0) ra_nil)) (ra_cons (re_f (t__law_is_page g) d.cal gd (by decide) rfl (ra_cons (re_var 0) ra_nil)) (ra_cons (re_f (t__law_is_set g) d.cal gd (by decide) rfl (ra_cons (re_var 0) ra_nil)) (ra_cons (re_f (t__law_is_sign g) d.cal gd (by decide) rfl (ra_cons (re_var 0) ra_nil)) (ra_cons (re_f (t__law_is_put g) d.cal gd (by decide) rfl (ra_cons (re_var 0) ra_nil)) ra_nil))))))))))))) (fun kV doc pm an cdv ct us h => by
    match us, h with
    | [u0], _ => rfl)
def b__law_told : SM := (sSeq (sSet 1 (eN (nLst (aCons (eF 1 M_is_integer (aCons (eVar 0) aNil)) (aCons (eF 1 M_is_number (aCons (eVar 0) aNil)) (aCons (eF 1 M_is_name (aCons (eVar 0) aNil)) (aCons (eF 1 M_is_kind (aCons (eVar 0) aNil)) (aCons (eF 1 M_is_sort (aCons (eVar 0) aNil)) (aCons (eF 1 M_is_row (aCons (eVar 0) aNil)) aNil))))))))) (sRet (eBin addM (eVar 1) (eN (nLst (aCons (eF 1 M_is_text (aCons (eVar 0) aNil)) (aCons (eF 1 M_is_gaps (aCons (eVar 0) aNil)) (aCons (eF 1 M_is_complaint (aCons (eVar 0) aNil)) (aCons (eF 1 M_is_way (aCons (eVar 0) aNil)) aNil)))))))))
def M__law_told : List D → M D := runB 2 b__law_told
theorem t__law_told (g : Gd Hd.fa Hd.fn Hd.ex K mg base) : Fnc P w K mg base 7 "_law_told" 1 M__law_told := by
  have hN : (["_law_item_here", "_law_found"] : List Str).Nodup := by decide +kernel
  obtain ⟨fd, F⟩ := g.says.def_ 28 (d := Hd.d__law_told) rfl
  exact fnc_of (ps := ["_law_item_here"]) F (g.glo 28) rfl (fnC (N := ["_law_item_here", "_law_found"]) F (scope_ok (by decide +kernel)) fun cdv A outer s g0 H E d gd => (rss_cons (rs_set 1 hN (re_n (rn_lst (ra_cons (re_f (t_is_integer g) d.cal gd (by decide) rfl (ra_cons (re_var 0) ra_nil)) (ra_cons (re_f (t_is_number g) d.cal gd (by decide) rfl (ra_cons (re_var 0) ra_nil)) (ra_cons (re_f (t_is_name g) d.cal gd (by decide) rfl (ra_cons (re_var 0) ra_nil)) (ra_cons (re_f (t_is_kind g) d.cal gd (by decide) rfl (ra_cons (re_var 0) ra_nil)) (ra_cons (re_f (t_is_sort g) d.cal gd (by decide) rfl (ra_cons (re_var 0) ra_nil)) (ra_cons (re_f (t_is_row g) d.cal gd (by decide) rfl (ra_cons (re_var 0) ra_nil)) ra_nil))))))))) (rss_one (rs_ret (re_bin o_add (re_var 1) (re_n (rn_lst (ra_cons (re_f (t_is_text g) d.cal gd (by decide) rfl (ra_cons (re_var 0) ra_nil)) (ra_cons (re_f (t_is_gaps g) d.cal gd (by decide) rfl (ra_cons (re_var 0) ra_nil)) (ra_cons (re_f (t_is_complaint g) d.cal gd (by decide) rfl (ra_cons (re_var 0) ra_nil)) (ra_cons (re_f (t_is_way g) d.cal gd (by decide) rfl (ra_cons (re_var 0) ra_nil)) ra_nil))))))))))) (fun kV doc pm an cdv ct us h => by
    match us, h with
    | [u0], _ => rfl)
def b__law_named : SM := (sSeq (sSet 1 (eN (nLst (aCons (eF 1 M_is_integer (aCons (eVar 0) aNil)) (aCons (eF 1 M_is_number (aCons (eVar 0) aNil)) (aCons (eF 1 M_is_name (aCons (eVar 0) aNil)) (aCons (eF 1 M_is_kind (aCons (eVar 0) aNil)) aNil))))))) (sSeq (sSet 1 (eBin addM (eVar 1) (eN (nLst (aCons (eF 1 M_is_sort (aCons (eVar 0) aNil)) (aCons (eF 1 M_is_row (aCons (eVar 0) aNil)) (aCons (eF 1 M_is_text (aCons (eVar 0) aNil)) (aCons (eF 1 M_is_gaps (aCons (eVar 0) aNil)) aNil)))))))) (sRet (eBin addM (eVar 1) (eN (nLst (aCons (eF 1 M_is_complaint (aCons (eVar 0) aNil)) (aCons (eF 1 M_is_way (aCons (eVar 0) aNil)) aNil))))))))
def M__law_named : List D → M D := runB 2 b__law_named
theorem t__law_named (g : Gd Hd.fa Hd.fn Hd.ex K mg base) : Fnc P w K mg base 7 "_law_named" 1 M__law_named := by
  have hN : (["_law_item_here", "_law_found"] : List Str).Nodup := by decide +kernel
  obtain ⟨fd, F⟩ := g.says.def_ 29 (d := Hd.d__law_named) rfl
  exact fnc_of (ps := ["_law_item_here"]) F (g.glo 29) rfl (fnC (N := ["_law_item_here", "_law_found"]) F (scope_ok (by decide +kernel)) fun cdv A outer s g0 H E d gd => (rss_cons (rs_set 1 hN (re_n (rn_lst (ra_cons (re_fk (k_is_integer_thing g) d.cal gd (by decide) rfl (rk_cons (re_var 0) rk_nil)) (ra_cons (re_fk (k_is_number_thing g) d.cal gd (by decide) rfl (rk_cons (re_var 0) rk_nil)) (ra_cons (re_fk (k_is_name_thing g) d.cal gd (by decide) rfl (rk_cons (re_var 0) rk_nil)) (ra_cons (re_fk (k_is_kind_thing g) d.cal gd (by decide) rfl (rk_cons (re_var 0) rk_nil)) ra_nil))))))) (rss_cons (rs_set 1 hN (re_bin o_add (re_var 1) (re_n (rn_lst (ra_cons (re_fk (k_is_sort_thing g) d.cal gd (by decide) rfl (rk_cons (re_var 0) rk_nil)) (ra_cons (re_fk (k_is_row_thing g) d.cal gd (by decide) rfl (rk_cons (re_var 0) rk_nil)) (ra_cons (re_fk (k_is_text_thing g) d.cal gd (by decide) rfl (rk_cons (re_var 0) rk_nil)) (ra_cons (re_fk (k_is_gaps_thing g) d.cal gd (by decide) rfl (rk_cons (re_var 0) rk_nil)) ra_nil)))))))) (rss_one (rs_ret (re_bin o_add (re_var 1) (re_n (rn_lst (ra_cons (re_fk (k_is_complaint_thing g) d.cal gd (by decide) rfl (rk_cons (re_var 0) rk_nil)) (ra_cons (re_fk (k_is_way_thing g) d.cal gd (by decide) rfl (rk_cons (re_var 0) rk_nil)) ra_nil)))))))))) (fun kV doc pm an cdv ct us h => by
    match us, h with
    | [u0], _ => rfl)
def b__law_put : SM := (sSeq (sParNV 2 3 (nLst aNil) (eC (.int 0))) (sSeq (sFor (iR1 (aCons (eF 2 M__law_draw (aCons (eVar 0) (aCons (eC (.int 4)) aNil))) aNil)) (gN 4) (sSeq (sSet 3 (eBin addM (eBin addM (eVar 3) (eF 2 M__law_draw (aCons (eVar 0) (aCons (eC (.int 3)) aNil)))) (eCL (L1 intM) (aCons (eBin gtM (eVar 4) (eC (.int 0))) aNil)))) (sApp 2 (eTup (aCons (eVar 3) (aCons (eBin addM (eF 2 M__law_page (aCons (eVar 0) (aCons (eVar 1) aNil))) (eTup (aCons (eTup (aCons (eC (.str "end")) aNil)) aNil))) aNil)))))) (sFrz 2 (sRet (eCL (L1 tupleM) (aCons (eVar 2) aNil))))))
def M__law_put : List D → M D := runB 5 b__law_put
theorem t__law_put (g : Gd Hd.fa Hd.fn Hd.ex K mg base) : Fnc P w K mg base 5 "_law_put" 2 M__law_put := by
  have hN : (["_law_feed_here", "_law_most", "_law_found", "_law_at", "_law_lap"] : List Str).Nodup := by decide +kernel
  obtain ⟨fd, F⟩ := g.says.def_ 30 (d := Hd.d__law_put) rfl
  exact fnc_of (ps := ["_law_feed_here", "_law_most"]) F (g.glo 30) rfl (fnC (N := ["_law_feed_here", "_law_most", "_law_found", "_law_at", "_law_lap"]) F (scope_ok (by decide +kernel)) fun cdv A outer s g0 H E d gd => (rss_cons (rs_parNV 2 3 rfl hN (rn_lst ra_nil) re_int) (rss_cons (rs_for d.po rfl (ri_range1 rfl (g.free 40) (ra_cons (re_f (t__law_draw g) d.cal gd (by decide) rfl (ra_cons (re_var 0) (ra_cons re_int ra_nil))) ra_nil)) (rg_name 4 hN) (rss_cons (rs_set 3 hN (re_bin o_add (re_bin o_add (re_var 3) (re_f (t__law_draw g) d.cal gd (by decide) rfl (ra_cons (re_var 0) (ra_cons re_int ra_nil)))) (re_callTy b_int rfl (g.free 41) (by decide +kernel) (ra_cons (re_cmp c_gt (re_var 4) re_int) ra_nil)))) (rss_one (rs_append 2 (re_tup (ra_cons (re_var 3) (ra_cons (re_bin o_add (re_f (t__law_page g) d.cal gd (by decide) rfl (ra_cons (re_var 0) (ra_cons (re_var 1) ra_nil))) (re_tup (ra_cons (re_tup (ra_cons re_str ra_nil)) ra_nil))) ra_nil))))))) (rss_one (rs_frz 2 (rs_ret (re_callTy b_tuple rfl (g.free 36) (by decide +kernel) (ra_cons (re_var 2) ra_nil)))))))) (fun kV doc pm an cdv ct us h => by
    match us, h with
    | [u0, u1], _ => rfl)
def b_law : SM := (sSeq (sSet 1 (eF 1 M__law_feed (aCons (eVar 0) aNil))) (sSeq (sOwn 2 (nComp [3] (iR1 (aCons (eC (.int 16)) aNil)) (gN 3) tYesM (eF 1 M__law_strange (aCons (eVar 1) aNil)))) (sSeq (sApp 2 (eTup (aCons (eTup (aCons (eC (.int 0)) (aCons (eTup (aCons (eTup (aCons (eC (.str "open")) (aCons (eC (.str "if")) aNil))) aNil)) aNil))) (aCons (eTup (aCons (eC (.int 0)) (aCons (eTup (aCons (eTup (aCons (eC (.str "open")) (aCons (eTup (aCons (eC (.str "fun")) (aCons (eC (.str "a")) aNil))) aNil))) aNil)) aNil))) aNil)))) (sSeq (sExt 2 (eN (nLst (aCons (eBin mulM (eTup (aCons (eTup (aCons (eC (.str "end")) aNil)) aNil)) (eC (.int 90))) (aCons (eTup (aCons (eTup (aCons (eC (.int 0)) (aCons (eBin mulM (eTup (aCons (eTup (aCons (eC (.str "stop")) aNil)) aNil)) (eC (.int 420))) aNil))) aNil)) (aCons (eTup (aCons (eTup (aCons (eC (.int 3)) (aCons (eTup (aCons (eTup (aCons (eC (.str "end")) aNil)) aNil)) aNil))) (aCons (eTup (aCons (eC (.int 500)) (aCons (eBin mulM (eTup (aCons (eTup (aCons (eC (.str "end")) aNil)) aNil)) (eC (.int 90))) aNil))) aNil))) (aCons (eTup (aCons (eC (.int 70)) aNil)) aNil))))))) (sSeq (sFor (iR1 (aCons (eC (.int 3)) aNil)) (gN 3) (sSeq (sPar 5 6 (aCons (eF 2 M__law_page (aCons (eVar 1) (aCons (eC (.int 5)) aNil))) (aCons (eBin addM (eC (.int 1)) (eF 2 M__law_draw (aCons (eVar 1) (aCons (eC (.int 9)) aNil)))) aNil))) (sSeq (sSet 7 (eCL (L1 tupleM) (aCons (eN (nUn sSetN (eN (nComp [12] (iR1 (aCons (eF 2 M__law_draw (aCons (eVar 1) (aCons (eC (.int 5)) aNil))) aNil)) (gN 12) tYesM (eF 2 M__law_draw (aCons (eVar 1) (aCons (eC (.int 12)) aNil))))))) aNil))) (sSeq (sSet 8 (eTup (aCons (eF 2 M__law_draw (aCons (eVar 1) (aCons (eC (.int 70)) aNil))) (aCons (eF 2 M__law_pick (aCons (eVar 1) (aCons (eN (nLst (aCons (eC (.str "use")) (aCons (eC (.str "unused")) (aCons (eC (.str "twice")) (aCons (eC (.str "stop")) (aCons (eC (.str "give")) (aCons (eC (.str "after")) (aCons (eC (.str "falls")) aNil))))))))) aNil))) aNil)))) (sSeq (sSet 9 (eJoin (eC (.str "")) (eN (nComp [12] (iR1 (aCons (eVar 6) aNil)) (gN 12) tYesM (eF 2 M__law_pick (aCons (eVar 1) (aCons (eC (.str "abz")) aNil))))))) (sSeq (sOwn 10 (nLst (aCons (eVar 5) (aCons (eVar 7) (aCons (eBin addM (eVar 7) (eSl (eVar 7) pNo (pSome (eC (.int 1))))) (aCons (eUn revM (eVar 7)) (aCons (eVar 8) (aCons (eTup (aCons (eBin idxM (eVar 8) (eC (.int 0))) (aCons (eF 2 M__law_pick (aCons (eVar 1) (aCons (eN (nLst (aCons (eC (.str "open")) (aCons (eC (.str "end")) aNil)))) aNil))) aNil))) (aCons (eVar 9) aNil))))))))) (sSeq (sExt 10 (eN (nLst (aCons (eF 2 M__law_put (aCons (eVar 1) (aCons (eC (.int 3)) aNil))) (aCons (eTup (aCons (eC (.str "let")) (aCons (eVar 9) (aCons (eC (.str "num")) aNil)))) (aCons (eTup (aCons (eC (.str "open")) (aCons (eTup (aCons (eC (.str "fun")) (aCons (eVar 9) aNil))) aNil))) (aCons (eTup (aCons (eC (.str "give")) (aCons (eVar 9) aNil))) aNil))))))) (sFrz 10 (sFor (iAny (eBin addM (eVar 10) (eN (nCL (L1N listN) (aCons (eSl (eVar 5) pNo (pSome (eC (.int 3)))) aNil))))) (gN 11) (sSeq (sApp 2 (eVar 11)) (sSeq (sApp 2 (eF 2 (M__law_bent 12) (aCons (eVar 1) (aCons (eVar 11) aNil)))) (sApp 2 (eF 2 (M__law_bent 12) (aCons (eVar 1) (aCons (eF 2 (M__law_bent 12) (aCons (eVar 1) (aCons (eVar 11) aNil))) aNil))))))))))))))) (sSeq (sFrz 2 (sSet 4 (eCL (L1 reprM) (aCons (eVar 2) aNil)))) (sSeq (sFrz 2 (sIf (tV (eBin neM (eN (nComp [11] (iAny (eVar 2)) (gN 11) (tV (eBin neM (eCL (L1 reprM) (aCons (eF 1 M__law_told (aCons (eVar 11) aNil)) aNil)) (eCL (L1 reprM) (aCons (eF 1 M__law_due (aCons (eVar 11) aNil)) aNil)))) (eVar 11))) (eN (nLst aNil)))) (sRet (eC (.bl false))) sNil)) (sFrz 2 (sRet (eAnd (eBin eqM (eCL (L1 reprM) (aCons (eF 1 M__law_named (aCons (eBin idxM (eVar 2) (eUn negM (eC (.int 1)))) aNil)) aNil)) (eCL (L1 reprM) (aCons (eF 1 M__law_due (aCons (eBin idxM (eVar 2) (eUn negM (eC (.int 1)))) aNil)) aNil))) (eBin eqM (eCL (L1 reprM) (aCons (eVar 2) aNil)) (eVar 4))))))))))))
def M_law : List D → M D := runB 13 b_law
theorem t_law (g : Gd Hd.fa Hd.fn Hd.ex K mg base) : Fnc P w K mg base 17 "law" 1 M_law := by
  have hN : (["_law_script", "_law_feed_here", "_law_items", "_law_lap", "_law_kept", "_law_page_here", "_law_size", "_law_some", "_law_sign", "_law_word_now", "_law_lot", "_law_item_here", "_law_turn"] : List Str).Nodup := by decide +kernel
  obtain ⟨fd, F⟩ := g.says.def_ 31 (d := Hd.d_law) rfl
  exact fnc_of (ps := ["_law_script"]) F (g.glo 31) rfl (fnC (N := ["_law_script", "_law_feed_here", "_law_items", "_law_lap", "_law_kept", "_law_page_here", "_law_size", "_law_some", "_law_sign", "_law_word_now", "_law_lot", "_law_item_here", "_law_turn"]) F (scope_ok (by decide +kernel)) fun cdv A outer s g0 H E d gd => (rss_cons (rs_set 1 hN (re_f (t__law_feed g) d.cal gd (by decide) rfl (ra_cons (re_var 0) ra_nil))) (rss_cons (rs_ownC 2 [("_law_lap", 3)] rfl hN (ri_range1 rfl (g.free 40) (ra_cons re_int ra_nil)) (blkOk_by (by kernel_rfl)) (by decide) (fun _ _ _ _ _ => (rg_name 3 hN)) (fun _ _ _ _ _ => rts_nil) (fun _ _ _ _ _ => (re_f (t__law_strange g) (cal_b d.cal _ _ _ _ _) gd (by decide) rfl (ra_cons (re_var 1) ra_nil)))) (rss_cons (rs_append 2 (re_tup (ra_cons (re_tup (ra_cons re_int (ra_cons (re_tup (ra_cons (re_tup (ra_cons re_str (ra_cons re_str ra_nil))) ra_nil)) ra_nil))) (ra_cons (re_tup (ra_cons re_int (ra_cons (re_tup (ra_cons (re_tup (ra_cons re_str (ra_cons (re_tup (ra_cons re_str (ra_cons re_str ra_nil))) ra_nil))) ra_nil)) ra_nil))) ra_nil)))) (rss_cons (rs_extend 2 (re_n (rn_lst (ra_cons (re_bin o_mul (re_tup (ra_cons (re_tup (ra_cons re_str ra_nil)) ra_nil)) re_int) (ra_cons (re_tup (ra_cons (re_tup (ra_cons re_int (ra_cons (re_bin o_mul (re_tup (ra_cons (re_tup (ra_cons re_str ra_nil)) ra_nil)) re_int) ra_nil))) ra_nil)) (ra_cons (re_tup (ra_cons (re_tup (ra_cons re_int (ra_cons (re_tup (ra_cons (re_tup (ra_cons re_str ra_nil)) ra_nil)) ra_nil))) (ra_cons (re_tup (ra_cons re_int (ra_cons (re_bin o_mul (re_tup (ra_cons (re_tup (ra_cons re_str ra_nil)) ra_nil)) re_int) ra_nil))) ra_nil))) (ra_cons (re_tup (ra_cons re_int ra_nil)) ra_nil))))))) (rss_cons (rs_for d.po rfl (ri_range1 rfl (g.free 40) (ra_cons re_int ra_nil)) (rg_name 3 hN) (rss_cons (rs_par 5 6 rfl hN (ra_cons (re_f (t__law_page g) d.cal gd (by decide) rfl (ra_cons (re_var 1) (ra_cons re_int ra_nil))) (ra_cons (re_bin o_add re_int (re_f (t__law_draw g) d.cal gd (by decide) rfl (ra_cons (re_var 1) (ra_cons re_int ra_nil)))) ra_nil))) (rss_cons (rs_set 7 hN (re_callTy b_tuple rfl (g.free 36) (by decide +kernel) (ra_cons (re_n (rn_sortedSet rfl (re_n (rn_comp [("_law_turn", 12)] rfl hN (ri_range1 rfl (g.free 40) (ra_cons (re_f (t__law_draw g) d.cal gd (by decide) rfl (ra_cons (re_var 1) (ra_cons re_int ra_nil))) ra_nil)) (blkOk_by (by kernel_rfl)) (by decide) (fun _ _ _ _ _ => (rg_name 12 hN)) (fun _ _ _ _ _ => rts_nil) (fun _ _ _ _ _ => (re_f (t__law_draw g) (cal_b d.cal _ _ _ _ _) gd (by decide) rfl (ra_cons (re_var 1) (ra_cons re_int ra_nil)))))) rfl (g.free 38) rfl (g.free 39))) ra_nil))) (rss_cons (rs_set 8 hN (re_tup (ra_cons (re_f (t__law_draw g) d.cal gd (by decide) rfl (ra_cons (re_var 1) (ra_cons re_int ra_nil))) (ra_cons (re_f (t__law_pick g) d.cal gd (by decide) rfl (ra_cons (re_var 1) (ra_cons (re_n (rn_lst (ra_cons re_str (ra_cons re_str (ra_cons re_str (ra_cons re_str (ra_cons re_str (ra_cons re_str (ra_cons re_str ra_nil))))))))) ra_nil))) ra_nil)))) (rss_cons (rs_set 9 hN (re_join re_str (re_n (rn_comp [("_law_turn", 12)] rfl hN (ri_range1 rfl (g.free 40) (ra_cons (re_var 6) ra_nil)) (blkOk_by (by kernel_rfl)) (by decide) (fun _ _ _ _ _ => (rg_name 12 hN)) (fun _ _ _ _ _ => rts_nil) (fun _ _ _ _ _ => (re_f (t__law_pick g) (cal_b d.cal _ _ _ _ _) gd (by decide) rfl (ra_cons (re_var 1) (ra_cons re_str ra_nil)))))))) (rss_cons (rs_own 10 hN (rn_lst (ra_cons (re_var 5) (ra_cons (re_var 7) (ra_cons (re_bin o_add (re_var 7) (re_sl (re_var 7) ro_no (ro_some re_int))) (ra_cons (re_rev (re_var 7)) (ra_cons (re_var 8) (ra_cons (re_tup (ra_cons (re_ix (re_var 8) re_int) (ra_cons (re_f (t__law_pick g) d.cal gd (by decide) rfl (ra_cons (re_var 1) (ra_cons (re_n (rn_lst (ra_cons re_str (ra_cons re_str ra_nil)))) ra_nil))) ra_nil))) (ra_cons (re_var 9) ra_nil))))))))) (rss_cons (rs_extend 10 (re_n (rn_lst (ra_cons (re_f (t__law_put g) d.cal gd (by decide) rfl (ra_cons (re_var 1) (ra_cons re_int ra_nil))) (ra_cons (re_tup (ra_cons re_str (ra_cons (re_var 9) (ra_cons re_str ra_nil)))) (ra_cons (re_tup (ra_cons re_str (ra_cons (re_tup (ra_cons re_str (ra_cons (re_var 9) ra_nil))) ra_nil))) (ra_cons (re_tup (ra_cons re_str (ra_cons (re_var 9) ra_nil))) ra_nil))))))) (rss_one (rs_frz 10 (rs_for d.po rfl (ri_any (re_bin o_add (re_var 10) (re_n (rn_callTy b_list rfl (g.free 37) (by decide +kernel) (ra_cons (re_sl (re_var 5) ro_no (ro_some re_int)) ra_nil))))) (rg_name 11 hN) (rss_cons (rs_append 2 (re_var 11)) (rss_cons (rs_append 2 (re_f (t__law_bent g 12) d.cal gd (by decide) rfl (ra_cons (re_var 1) (ra_cons (re_var 11) ra_nil)))) (rss_one (rs_append 2 (re_f (t__law_bent g 12) d.cal gd (by decide) rfl (ra_cons (re_var 1) (ra_cons (re_f (t__law_bent g 12) d.cal gd (by decide) rfl (ra_cons (re_var 1) (ra_cons (re_var 11) ra_nil))) ra_nil))))))))))))))))) (rss_cons (rs_frz 2 (rs_set 4 hN (re_callB (b_repr gd d.units) rfl (g.free 44) (by decide +kernel) (ra_cons (re_var 2) ra_nil)))) (rss_cons (rs_frz 2 (rs_if (rt_cmp (c_ne d.u64) (re_n (rn_comp [("_law_item_here", 11)] rfl hN (ri_any (re_var 2)) (blkOk_by (by kernel_rfl)) (by decide) (fun _ _ _ _ _ => (rg_name 11 hN)) (fun _ _ _ _ _ => (rts_one (rt_cmp (c_ne d.u64) (re_callB (b_repr gd d.units) rfl (g.free 44) (by decide +kernel) (ra_cons (re_f (t__law_told g) (cal_b d.cal _ _ _ _ _) gd (by decide) rfl (ra_cons (re_var 11) ra_nil)) ra_nil)) (re_callB (b_repr gd d.units) rfl (g.free 44) (by decide +kernel) (ra_cons (re_f (t__law_due g) (cal_b d.cal _ _ _ _ _) gd (by decide) rfl (ra_cons (re_var 11) ra_nil)) ra_nil))))) (fun _ _ _ _ _ => (re_var 11)))) (re_n (rn_lst ra_nil))) (rss_one (rs_ret re_bl)) rss_nil)) (rss_one (rs_frz 2 (rs_ret (re_and (re_cmp (c_eq d.u64) (re_callB (b_repr gd d.units) rfl (g.free 44) (by decide +kernel) (ra_cons (re_f (t__law_named g) d.cal gd (by decide) rfl (ra_cons (re_ix (re_var 2) (re_un u_neg re_int)) ra_nil)) ra_nil)) (re_callB (b_repr gd d.units) rfl (g.free 44) (by decide +kernel) (ra_cons (re_f (t__law_due g) d.cal gd (by decide) rfl (ra_cons (re_ix (re_var 2) (re_un u_neg re_int)) ra_nil)) ra_nil))) (re_one (re_cmp (c_eq d.u64) (re_callB (b_repr gd d.units) rfl (g.free 44) (by decide +kernel) (ra_cons (re_var 2) ra_nil)) (re_var 4))))))))))))))) (fun kV doc pm an cdv ct us h => by
    match us, h with
    | [u0], _ => rfl)
end G
namespace Hd
open PySem PySem.Spec PyProof.Rows L2
abbrev R : PySem.W.OpenRow := PySem.W.OpenLaw.row PySem.Challenge.rw_surelywrong_k01_kinds_told
abbrev hk : PySem.W.Hook := He.hookX 4 fa fn [] [] ex
def ob (s : PySem.W.SharedT) : He.AlX := He.obsX 4 fa fn [] [] ex (HandSHeadRun.getT s)
theorem ob_eq (s : PySem.W.SharedT) : ob s = hk.obs s.abs := He.obsX_eq (HandSHeadRun.getT_eq s)
theorem run (w : World) : HandSHeadRun.RunEq R (PySem.W.view R.prog [36]) hk ob 1000 loose w := by
  intro os
  kernel_rfl
end Hd
namespace G
open PySem PySem.Spec PyProof.Rows L2 F PySem.W PySem.Calls
theorem holds_of (hw : ∀ ns : List Int, ns.length ≤ 63 → wp (M_law [.scr ns]) [] (fun d _ => d = .bl true) (fun _ _ => False)) : PySem.Challenge.rw_surelywrong_k01_kinds_told.Holds := by
  w_on; o_law
  refine HandSHeadRun.head_any (r := OpenLaw.row PySem.Challenge.rw_surelywrong_k01_kinds_told) (q := view (OpenLaw.row PySem.Challenge.rw_surelywrong_k01_kinds_told).prog [36]) (H := Hd.hk) (ob := Hd.ob) (M := 1000) (loose := Hd.loose) (d := HandSHeadRun.topDef (OpenLaw.row PySem.Challenge.rw_surelywrong_k01_kinds_told).prog 36) (kwd := []) Hd.ob_eq
    (by kernel_rfl) (fun s => by kernel_rfl) Hd.run (by kernel_rfl) (by kernel_rfl) (by kernel_rfl) (by rfl) (by first | assumption | decide +kernel) (by decide +kernel) ⟨rfl, rfl, rfl, rfl, rfl, by decide +kernel⟩ ?hw ?hc
  case hw => w_witness2
  case hc => exact law_walk (n := 63) (k := 17) (fa := Hd.fa) (fn := Hd.fn) (ex := Hd.ex) (bm := M_law) (by rfl) (by decide) (by rfl) ⟨rfl, by decide, by decide⟩ (fun w h ⟨K, hK, c⟩ => ⟨K, hK, c.t.d, c.more⟩) (fun g => t_law g) hw
end G
namespace G
open PySem PySem.Spec PyProof.Rows L2 F
/-! ## what the kinds are -/
def numB : D → Bool
  | .int i => decide (0 ≤ i)
  | _ => false
def intB : D → Bool
  | .int _ => true
  | _ => false
def ltr : List Nat := ("abcdefghijklmnopqrstuvwxyz" : Str).cps.toList
def nameB : D → Bool
  | .str s => decide (1 ≤ s.length) && decide (s.length ≤ 8) && s.cps.toList.all fun c => decide (c ∈ ltr)
  | _ => false
def strB (z : Str) : D → Bool
  | .str s => s == z
  | _ => false
def kindB (d : D) : Bool := strB "" d || nameB d
def sortB : D → Bool
  | .str s => s == "if" || s == "loop"
  | .tup [a, b] => strB "fun" a && kindB b
  | _ => false
def rowB : D → Bool
  | .tup [a] => strB "end" a || strB "stop" a
  | .tup [a, b] => (strB "open" a && sortB b) || (strB "give" a && kindB b)
  | .tup [a, b, c] => (strB "let" a || strB "use" a) && nameB b && nameB c
  | _ => false
def tupB : D → Bool
  | .tup _ => true
  | _ => false
def itms : D → List D
  | .tup xs => xs
  | _ => []
def pageB (d : D) : Bool := tupB d && (itms d).all rowB
mutual
/-- sizes within what is read -/
def D.ok : D → Bool
  | .str x => PyData.strOk x && decide (x.length ≤ 1000)
  | .int i => decide (i.natAbs < 10 ^ 61)
  | .tup xs => decide (xs.length ≤ 1000) && (!xs.all numB || decide (xs.length < 64)) && D.okL xs
  | .lst xs => decide (xs.length ≤ 1000) && D.okL xs
  | .dic _ => false
  | .obj _ => false
  | .scr _ => false
  | _ => true
def D.okL : List D → Bool
  | [] => true
  | x :: xs => D.ok x && D.okL xs
end
mutual
theorem ok_pl : ∀ d : D, D.ok d = true → d.pl = true
  | .non, _ => rfl
  | .bl _, _ => rfl
  | .int _, _ => rfl
  | .str x, h => by simp [D.ok] at h; simp [D.pl, h]
  | .tup xs, h => by simp only [D.ok, Bool.and_eq_true] at h; simp only [D.pl]; exact okL_pl xs h.2
  | .lst xs, h => by simp only [D.ok, Bool.and_eq_true] at h; simp only [D.pl]; exact okL_pl xs h.2
  | .dic _, h => by simp [D.ok] at h
  | .obj _, h => by simp [D.ok] at h
  | .scr _, h => by simp [D.ok] at h
theorem okL_pl : ∀ ds : List D, D.okL ds = true → D.plL ds = true
  | [], _ => rfl
  | d :: ds, h => by
    simp only [D.okL, Bool.and_eq_true] at h
    simp only [D.plL, Bool.and_eq_true]
    exact ⟨ok_pl d h.1, okL_pl ds h.2⟩
end
theorem okL_mem {ds : List D} (h : D.okL ds = true) : ∀ d ∈ ds, D.ok d = true := by
  induction ds with
  | nil => intro d hd; cases hd
  | cons x xs ih =>
    simp only [D.okL, Bool.and_eq_true] at h
    intro d hd
    rcases List.mem_cons.mp hd with e | e
    · subst e; exact h.1
    · exact ih h.2 d e
theorem depL_mem {ds : List D} {n : Nat} (h : D.depL ds ≤ n) : ∀ d ∈ ds, d.dep ≤ n := by
  induction ds with
  | nil => intro d hd; cases hd
  | cons x xs ih =>
    simp only [D.depL] at h
    intro d hd
    rcases List.mem_cons.mp hd with e | e
    · subst e; omega
    · exact ih (by omega) d e
/-- fit to be asked -/
structure Fit (d : D) : Prop where
  ok : D.ok d = true
  dp : d.dep ≤ 60
theorem Fit.sh {d : D} (f : Fit d) : d.sh = true := by
  simp only [D.sh, Bool.and_eq_true, decide_eq_true_eq]
  exact ⟨ok_pl d f.ok, by have := f.dp; omega⟩
theorem Fit.mem {xs : List D} (f : Fit (.tup xs)) : ∀ d ∈ xs, Fit d := fun d hd => by
  have h := f.ok
  simp only [D.ok, Bool.and_eq_true] at h
  have hd2 := f.dp
  simp only [D.dep] at hd2
  exact ⟨okL_mem h.2 d hd, by have := depL_mem (n := 59) (by omega) d hd; omega⟩
theorem Fit.len {xs : List D} (f : Fit (.tup xs)) : xs.length ≤ 1000 := by
  have h := f.ok
  simp only [D.ok, Bool.and_eq_true, decide_eq_true_eq] at h
  exact h.1.1
theorem Fit.ob {d : D} (f : Fit d) : d.ob = false := by
  have h := f.ok
  cases d <;> first | rfl | (simp [D.ok] at h)
/-! ## the operations on what is fit -/
theorem eq_i (a b : Int) : eqM (.int a) (.int b) = .ret (.bl (a == b)) := rfl
theorem ne_i (a b : Int) : neM (.int a) (.int b) = .ret (.bl (!(a == b))) := rfl
theorem sh_str (z : Str) (h : PyData.strOk z = true) : (D.str z).sh = true := by simp [D.sh, D.pl, D.dep, h]
theorem eqv_str (d : D) (z : Str) : D.eqv d (.str z) = strB z d := by cases d <;> rfl
theorem eq_s {d : D} (z : Str) (h : d.sh = true) (hz : PyData.strOk z = true) : eqM d (.str z) = .ret (.bl (strB z d)) := by
  unfold eqM
  rw [if_pos (by rw [h, sh_str z hz]; simp), eqv_str]
theorem eqv_str' (d : D) (z : Str) : D.eqv (.str z) d = strB z d := by
  cases d with
  | str s =>
    show (z == s) = (s == z)
    rw [Bool.eq_iff_iff, beq_iff_eq, beq_iff_eq]
    exact eq_comm
  | _ => rfl
theorem in_s {d : D} {ys : List Str} (h : d.sh = true) (hy : ys.all PyData.strOk = true) : inM false d (.tup (ys.map D.str)) = .ret (.bl (ys.any fun z => strB z d)) := by
  have key : ∀ ys : List Str, ys.all PyData.strOk = true → D.plL (ys.map D.str) = true ∧ D.depL (ys.map D.str) = 0 ∧ inL d (ys.map D.str) = ys.any fun z => strB z d := by
    intro ys
    induction ys with
    | nil => intro _; exact ⟨rfl, rfl, rfl⟩
    | cons y ys ih =>
      intro hy
      rw [List.all_cons, Bool.and_eq_true] at hy
      obtain ⟨h1, h2, h3⟩ := ih hy.2
      refine ⟨by simp [D.plL, D.pl, hy.1, h1], by simp [D.depL, D.dep, h2], ?_⟩
      unfold inL at h3 ⊢
      rw [List.map_cons, List.any_cons, List.any_cons, h3, eqv_str']
  obtain ⟨h1, h2, h3⟩ := key ys hy
  have hs : D.sh (.tup (ys.map D.str)) = true := by simp [D.sh, D.pl, D.dep, h1, h2]
  have hc : ((d.flat && (ys.map D.str).all D.flat) || (d.sh && D.sh (.tup (ys.map D.str)))) = true := by rw [h, hs]; simp
  cases d with
  | str s => show (if _ then _ else _) = _; rw [if_pos hc, h3, Bool.false_xor]
  | non => show (if _ then _ else _) = _; rw [if_pos hc, h3, Bool.false_xor]
  | bl _ => show (if _ then _ else _) = _; rw [if_pos hc, h3, Bool.false_xor]
  | int _ => show (if _ then _ else _) = _; rw [if_pos hc, h3, Bool.false_xor]
  | tup _ => show (if _ then _ else _) = _; rw [if_pos hc, h3, Bool.false_xor]
  | lst _ => show (if _ then _ else _) = _; rw [if_pos hc, h3, Bool.false_xor]
  | dic _ => simp [D.sh, D.pl] at h
  | obj _ => simp [D.sh, D.pl] at h
  | scr _ => simp [D.sh, D.pl] at h
theorem isi_s {d : D} (h : d.ob = false) : isiM "str" d = .ret (.bl (match d with | .str _ => true | _ => false)) := by
  cases d <;> first | rfl | cases h
theorem isi_t {d : D} (h : d.ob = false) : isiM "tuple" d = .ret (.bl (tupB d)) := by
  cases d <;> first | rfl | cases h
theorem is_integer_eq {d : D} (h : d.ob = false) : M_is_integer [d] = .ret (.bl (intB d)) := by
  cases d <;> first | rfl | cases h
theorem is_number_eq {d : D} (h : d.ob = false) : M_is_number [d] = .ret (.bl (numB d)) := by
  cases d <;> first | rfl | cases h
theorem law_is_number_eq {d : D} (h : d.ob = false) : M__law_is_number [d] = .ret (.bl (numB d)) := by
  cases d <;> first | rfl | cases h
/-! ## comprehensions without effects -/
theorem comp_pure {gm : GM} {tm : Ev → M Bool} {em : Ev → M D} {ρ : Ev} (p : D → Bool) (f : D → D) : ∀ ds : List D, (∀ d ∈ ds, ∃ ρ', gm d ρ = some ρ' ∧ tm ρ' = .ret (p d) ∧ (p d = true → em ρ' = .ret (f d))) →
    compM (compI gm tm em ρ) ds = .ret ((ds.filter p).map f)
  | [], _ => rfl
  | d :: ds, h => by
    obtain ⟨ρ', h1, h2, h3⟩ := h d List.mem_cons_self
    have ih := comp_pure p f ds fun x hx => h x (List.mem_cons_of_mem _ hx)
    have hc : compI gm tm em ρ d = .ret (if p d = true then some (f d) else none) := by
      unfold compI
      rw [h1]
      simp only [h2, M.ret_bind]
      cases hp : p d with
      | true => simp only [h3 hp, M.ret_bind]; rfl
      | false => rfl
    show (compI gm tm em ρ d >>= fun o => compM (compI gm tm em ρ) ds >>= fun r => M.ret (o.toList ++ r)) = _
    rw [hc, ih]
    simp only [M.ret_bind]
    cases hp : p d with
    | true => simp [List.filter_cons, hp]
    | false => simp [List.filter_cons, hp]
theorem nComp_pure {vs : List Nat} {it : Ev → M (List D)} {gm : GM} {tm : Ev → M Bool} {em : Ev → M D} {ρ : Ev} {ds : List D} (p : D → Bool) (f : D → D) (hi : it ρ = .ret ds) (hl : ds.length ≤ sizeLine)
    (h : ∀ d ∈ ds, ∃ ρ', gm d (wipeE ρ vs) = some ρ' ∧ tm ρ' = .ret (p d) ∧ (p d = true → em ρ' = .ret (f d))) : nComp vs it gm tm em ρ = .ret ((ds.filter p).map f) := by
  unfold nComp
  rw [hi]
  show (if ds.length ≤ sizeLine then _ else _) = _
  rw [if_pos hl, comp_pure p f ds h]
  rfl
theorem nComp_map {vs : List Nat} {it : Ev → M (List D)} {gm : GM} {em : Ev → M D} {ρ : Ev} {ds : List D} (f : D → D) (hi : it ρ = .ret ds) (hl : ds.length ≤ sizeLine)
    (h : ∀ d ∈ ds, ∃ ρ', gm d (wipeE ρ vs) = some ρ' ∧ em ρ' = .ret (f d)) : nComp vs it gm tYesM em ρ = .ret (ds.map f) := by
  have q := nComp_pure (vs := vs) (it := it) (gm := gm) (tm := tYesM) (em := em) (ρ := ρ) (fun _ => true) f hi hl fun d hd => by
    obtain ⟨ρ', h1, h2⟩ := h d hd
    exact ⟨ρ', h1, rfl, fun _ => h2⟩
  rw [q, List.filter_eq_self.mpr fun _ _ => rfl]
theorem blsOf_map' (f : D → Bool) (ds : List D) : blsOf (ds.map fun d => .bl (f d)) = some (ds.map f) := by
  have : (ds.map fun d => D.bl (f d)) = (ds.map f).map D.bl := by rw [List.map_map]; rfl
  rw [this, blsOf_bl]
theorem all_l (f : D → Bool) (ds : List D) : allM (.lst (ds.map fun d => .bl (f d))) = .ret (.bl (ds.all f)) := by
  unfold allM
  simp only [blsOf_map']
  congr 2
  rw [List.all_map]; rfl
theorem sz1000 {n : Nat} (h : n ≤ 1000) : n ≤ sizeLine := by rw [sizeLine_eq]; omega
/-! ## names -/
def lt1 (c : Nat) : Bool := decide (c ∈ ltr)
theorem in_ltr (neg : Bool) (c : Nat) : inM neg (.str ⟨#[c]⟩) (.str "abcdefghijklmnopqrstuvwxyz") = .ret (.bl (neg ^^ lt1 c)) := rfl
theorem strD_len (s : Str) : (strD s).length = s.length := by unfold strD; rw [List.length_map, Array.length_toList]; rfl
def sgB : D → Bool
  | .str s => lt1 (s.cps.getD 0 0)
  | _ => false
theorem strD_all (s : Str) : (strD s).all sgB = s.cps.toList.all lt1 := by
  unfold strD
  rw [List.all_map]
  rfl
theorem strD_mem {s : Str} {d : D} (h : d ∈ strD s) : ∃ c, d = .str ⟨#[c]⟩ := by
  unfold strD at h
  obtain ⟨c, _, e⟩ := List.mem_map.mp h
  exact ⟨c, e.symm⟩
theorem isi_ss (s : Str) : isiM "str" (.str s) = .ret (.bl true) := rfl
theorem isi_ti (xs : List D) : isiM "tuple" (.tup xs) = .ret (.bl true) := rfl
theorem name_len (s : Str) (hl : s.length ≤ sizeLine) : eChain leM leM (eC (.int 1)) (eCL (L1 lenM) (aCons (eVar 0) aNil)) (eC (.int 8)) [.v (.str s), .no] = .ret (.bl (decide (1 ≤ s.length) && decide (s.length ≤ 8))) := by
  have hlen : lenM (.str s) = .ret (.int s.length) := if_pos hl
  simp only [runB, startE, sSeq, sIf, sRet, sSet, sPar, sNil, sDrop, eBin, eUn, eC, eVar, eAnd, eOr, eNot, notD, eF, eCL, L1, L1N, nCL, aCons, aNil, eTup, nLst, eN, tV, tTru, asB, tru, tOrM, tAndM, tNotM, eIf, eSl, pSome, pNo, nUn, M.ret_bind, List.map_cons, List.map_nil, List.length_cons, List.length_nil, List.replicate, List.cons_append, List.nil_append, List.getElem?_cons_zero, List.getElem?_cons_succ, List.set_cons_zero, List.set_cons_succ, hlen, eChain, le_i]
  by_cases h1 : 1 ≤ s.length
  · rw [decide_eq_true h1, decide_eq_true (show (1 : Int) ≤ s.length by omega)]
    by_cases h2 : s.length ≤ 8
    · rw [decide_eq_true h2, decide_eq_true (show (s.length : Int) ≤ 8 by omega)]; rfl
    · rw [decide_eq_false h2, decide_eq_false (show ¬ (s.length : Int) ≤ 8 by omega)]; rfl
  · rw [decide_eq_false h1, decide_eq_false (show ¬ (1 : Int) ≤ s.length by omega)]; rfl
theorem nameB_str (s : Str) : nameB (.str s) = ((decide (1 ≤ s.length) && decide (s.length ≤ 8)) && s.cps.toList.all lt1) := rfl
theorem is_name_str (s : Str) (h : s.length ≤ 1000) : M_is_name [.str s] = .ret (.bl (nameB (.str s))) := by
  have hl := sz1000 h
  have hn : nComp [1] (iAny (eVar 0)) (gN 1) tYesM (eBin (inM false) (eVar 1) (eC (.str "abcdefghijklmnopqrstuvwxyz"))) [.v (.str s), .no] = .ret ((strD s).map fun d => .bl (sgB d)) := by
    refine nComp_map _ rfl (by rw [strD_len]; exact hl) fun d hd => ⟨_, rfl, ?_⟩
    obtain ⟨c, rfl⟩ := strD_mem hd
    show inM false (.str ⟨#[c]⟩) (.str "abcdefghijklmnopqrstuvwxyz") = _
    rw [in_ltr, Bool.false_xor]; rfl
  rw [nameB_str]
  unfold M_is_name b_is_name
  simp only [runB, startE, sSeq, sIf, sRet, sSet, sPar, sNil, sDrop, eBin, eUn, eC, eVar, eAnd, eOr, eNot, notD, eF, eCL, L1, L1N, nCL, aCons, aNil, eTup, nLst, eN, tV, tTru, asB, tru, tOrM, tAndM, tNotM, eIf, eSl, pSome, pNo, nUn, M.ret_bind, List.map_cons, List.map_nil, List.length_cons, List.length_nil, List.replicate, List.cons_append, List.nil_append, List.getElem?_cons_zero, List.getElem?_cons_succ, List.set_cons_zero, List.set_cons_succ, isi_ss, name_len s hl]
  cases (decide (1 ≤ s.length) && decide (s.length ≤ 8)) with
  | true => simp only [runB, startE, sSeq, sIf, sRet, sSet, sPar, sNil, sDrop, eBin, eUn, eC, eVar, eAnd, eOr, eNot, notD, eF, eCL, L1, L1N, nCL, aCons, aNil, eTup, nLst, eN, tV, tTru, asB, tru, tOrM, tAndM, tNotM, eIf, eSl, pSome, pNo, nUn, M.ret_bind, List.map_cons, List.map_nil, List.length_cons, List.length_nil, List.replicate, List.cons_append, List.nil_append, List.getElem?_cons_zero, List.getElem?_cons_succ, List.set_cons_zero, List.set_cons_succ, Bool.not_true, Bool.not_false, hn, all_l, strD_all, Bool.true_and]
  | false => simp only [runB, startE, sSeq, sIf, sRet, sSet, sPar, sNil, sDrop, eBin, eUn, eC, eVar, eAnd, eOr, eNot, notD, eF, eCL, L1, L1N, nCL, aCons, aNil, eTup, nLst, eN, tV, tTru, asB, tru, tOrM, tAndM, tNotM, eIf, eSl, pSome, pNo, nUn, M.ret_bind, List.map_cons, List.map_nil, List.length_cons, List.length_nil, List.replicate, List.cons_append, List.nil_append, List.getElem?_cons_zero, List.getElem?_cons_succ, List.set_cons_zero, List.set_cons_succ, Bool.not_true, Bool.not_false, Bool.false_and]
theorem is_name_eq {d : D} (f : Fit d) : M_is_name [d] = .ret (.bl (nameB d)) := by
  have hk := f.ok
  cases d with
  | str s => exact is_name_str s (by simp [D.ok] at hk; exact hk.2)
  | dic _ => simp [D.ok] at hk
  | obj _ => simp [D.ok] at hk
  | scr _ => simp [D.ok] at hk
  | _ => rfl
theorem lst_nil_eq (ds : List D) (h : (D.lst ds).sh = true) : eqM (.lst ds) (.lst []) = .ret (.bl ds.isEmpty) := by
  unfold eqM
  rw [if_pos (by rw [h]; rfl)]
  cases ds <;> rfl
theorem lst_nil_ne (ds : List D) (h : (D.lst ds).sh = true) : neM (.lst ds) (.lst []) = .ret (.bl (!ds.isEmpty)) := by
  unfold neM
  rw [if_pos (by rw [h]; rfl)]
  cases ds <;> rfl
theorem filter_empty {p : D → Bool} (ds : List D) : (ds.filter fun d => !p d).isEmpty = ds.all p := by
  induction ds with
  | nil => rfl
  | cons d ds ih =>
    rw [List.filter_cons, List.all_cons]
    cases h : p d with
    | true => simpa using ih
    | false => simp
theorem plL_filter (p : D → Bool) (ds : List D) (h : D.plL ds = true) : D.plL (ds.filter p) = true ∧ ∀ n, D.depL ds ≤ n → D.depL (ds.filter p) ≤ n := by
  induction ds with
  | nil => exact ⟨rfl, fun n h => h⟩
  | cons d ds ih =>
    simp only [D.plL, Bool.and_eq_true] at h
    obtain ⟨h1, h2⟩ := ih h.2
    rw [List.filter_cons]
    cases p d with
    | true => exact ⟨by simp [D.plL, h.1, h1], fun n hn => by simp only [D.depL, if_true] at hn ⊢; have := h2 n (by omega); omega⟩
    | false => exact ⟨by simpa using h1, fun n hn => by simp only [D.depL] at hn; simpa using h2 n (by omega)⟩
theorem sh_lst {ds : List D} : (D.lst ds).sh = true ↔ D.plL ds = true ∧ D.depL ds ≤ 63 := by
  unfold D.sh
  rw [Bool.and_eq_true, decide_eq_true_eq]
  exact and_congr_right fun _ => by show D.depL ds + 1 ≤ 64 ↔ _; omega
theorem sh_tup {ds : List D} : (D.tup ds).sh = true ↔ D.plL ds = true ∧ D.depL ds ≤ 63 := by
  unfold D.sh
  rw [Bool.and_eq_true, decide_eq_true_eq]
  exact and_congr_right fun _ => by show D.depL ds + 1 ≤ 64 ↔ _; omega
theorem sh_filter {p : D → Bool} {ds : List D} (h : (D.lst ds).sh = true) : (D.lst (ds.filter p)).sh = true := by
  rw [sh_lst] at h ⊢
  obtain ⟨h1, h2⟩ := plL_filter p ds h.1
  exact ⟨h1, h2 63 h.2⟩
theorem sh_strD (s : Str) (h : PyData.strOk s = true) : (D.lst (strD s)).sh = true := by
  have key : ∀ l : List Nat, l.all (· < 0x110000) = true → D.plL (l.map fun c => D.str ⟨#[c]⟩) = true ∧ D.depL (l.map fun c => D.str ⟨#[c]⟩) = 0 := by
    intro l
    induction l with
    | nil => intro _; exact ⟨rfl, rfl⟩
    | cons c l ih =>
      intro h
      rw [List.all_cons, Bool.and_eq_true] at h
      obtain ⟨h1, h2⟩ := ih h.2
      refine ⟨?_, by simp [D.depL, D.dep, h2]⟩
      rw [List.map_cons]
      simp only [D.plL, D.pl, h1, Bool.and_true]
      unfold PyData.strOk
      simpa using h.1
  obtain ⟨h1, h2⟩ := key s.cps.toList (by unfold PyData.strOk at h; rw [← Array.all_toList] at h; exact h)
  exact sh_lst.mpr ⟨h1, by unfold strD; rw [h2]; omega⟩
theorem law_is_name_eq {d : D} (f : Fit d) : M__law_is_name [d] = .ret (.bl (nameB d)) := by
  have hk := f.ok
  cases d with
  | dic _ => simp [D.ok] at hk
  | obj _ => simp [D.ok] at hk
  | scr _ => simp [D.ok] at hk
  | str s =>
    simp only [D.ok, Bool.and_eq_true, decide_eq_true_eq] at hk
    have hl := sz1000 hk.2
    have hn : nComp [1] (iAny (eVar 0)) (gN 1) (tV (eBin (inM true) (eVar 1) (eC (.str "abcdefghijklmnopqrstuvwxyz")))) (eVar 1) [.v (.str s), .no] = .ret (((strD s).filter fun d => !sgB d).map id) := by
      refine nComp_pure _ _ rfl (by rw [strD_len]; exact hl) fun d hd => ⟨_, rfl, ?_, fun _ => rfl⟩
      obtain ⟨c, rfl⟩ := strD_mem hd
      show (inM true (.str ⟨#[c]⟩) (.str "abcdefghijklmnopqrstuvwxyz") >>= asB) = _
      rw [in_ltr, Bool.true_xor]; rfl
    rw [List.map_id] at hn
    rw [nameB_str]
    unfold M__law_is_name b__law_is_name
    simp only [runB, startE, sSeq, sIf, sRet, sSet, sPar, sNil, sDrop, eBin, eUn, eC, eVar, eAnd, eOr, eNot, notD, eF, eCL, L1, L1N, nCL, aCons, aNil, eTup, nLst, eN, tV, tTru, asB, tru, tOrM, tAndM, tNotM, eIf, eSl, pSome, pNo, nUn, M.ret_bind, List.map_cons, List.map_nil, List.length_cons, List.length_nil, List.replicate, List.cons_append, List.nil_append, List.getElem?_cons_zero, List.getElem?_cons_succ, List.set_cons_zero, List.set_cons_succ, isi_ss, name_len s hl]
    cases (decide (1 ≤ s.length) && decide (s.length ≤ 8)) with
    | true => simp only [runB, startE, sSeq, sIf, sRet, sSet, sPar, sNil, sDrop, eBin, eUn, eC, eVar, eAnd, eOr, eNot, notD, eF, eCL, L1, L1N, nCL, aCons, aNil, eTup, nLst, eN, tV, tTru, asB, tru, tOrM, tAndM, tNotM, eIf, eSl, pSome, pNo, nUn, M.ret_bind, List.map_cons, List.map_nil, List.length_cons, List.length_nil, List.replicate, List.cons_append, List.nil_append, List.getElem?_cons_zero, List.getElem?_cons_succ, List.set_cons_zero, List.set_cons_succ, Bool.not_true, Bool.not_false, hn, lst_nil_eq _ (sh_filter (sh_strD s hk.1)), filter_empty, strD_all, Bool.true_and, Nat.zero_le, if_true]
    | false => simp only [runB, startE, sSeq, sIf, sRet, sSet, sPar, sNil, sDrop, eBin, eUn, eC, eVar, eAnd, eOr, eNot, notD, eF, eCL, L1, L1N, nCL, aCons, aNil, eTup, nLst, eN, tV, tTru, asB, tru, tOrM, tAndM, tNotM, eIf, eSl, pSome, pNo, nUn, M.ret_bind, List.map_cons, List.map_nil, List.length_cons, List.length_nil, List.replicate, List.cons_append, List.nil_append, List.getElem?_cons_zero, List.getElem?_cons_succ, List.set_cons_zero, List.set_cons_succ, Bool.not_true, Bool.not_false, Bool.false_and]
  | _ => rfl
end G
namespace G
open PySem PySem.Spec PyProof.Rows L2 F
theorem ne_s {d : D} (z : Str) (h : d.sh = true) (hz : PyData.strOk z = true) : neM d (.str z) = .ret (.bl (!strB z d)) := by
  unfold neM
  rw [if_pos (by rw [h, sh_str z hz]; simp), eqv_str]
theorem is_kind_eq {d : D} (f : Fit d) : M_is_kind [d] = .ret (.bl (kindB d)) := by
  have h := is_name_eq f
  have e : eqM d (.str "") = .ret (.bl (strB "" d)) := eq_s "" f.sh (by decide +kernel)
  have o := f.ob
  unfold M_is_kind b_is_kind
  simp only [runB, startE, sSeq, sIf, sRet, sSet, sPar, sNil, sDrop, eBin, eUn, eC, eVar, eAnd, eOr, eNot, notD, eF, eCL, L1, L1N, nCL, aCons, aNil, eTup, nLst, eN, tV, tTru, asB, tru, tOrM, tAndM, tNotM, eIf, eSl, pSome, pNo, nUn, M.ret_bind, List.map_cons, List.map_nil, List.length_cons, List.length_nil, List.replicate, List.cons_append, List.nil_append, List.getElem?_cons_zero, List.getElem?_cons_succ, List.set_cons_zero, List.set_cons_succ, h, if_true, e, isi_s o]
  cases d with
  | str s => cases hn : nameB (.str s) <;> simp [kindB, hn, runB, startE, sSeq, sIf, sRet, sSet, sPar, sNil, sDrop, eBin, eUn, eC, eVar, eAnd, eOr, eNot, notD, eF, eCL, L1, L1N, nCL, aCons, aNil, eTup, nLst, eN, tV, tTru, asB, tru, tOrM, tAndM, tNotM, eIf, eSl, pSome, pNo, nUn, M.ret_bind, List.map_cons, List.map_nil, List.length_cons, List.length_nil, List.replicate, List.cons_append, List.nil_append, List.getElem?_cons_zero, List.getElem?_cons_succ, List.set_cons_zero, List.set_cons_succ]
  | obj _ => cases o
  | scr _ => cases o
  | _ => rfl
theorem law_is_kind_eq {d : D} (f : Fit d) : M__law_is_kind [d] = .ret (.bl (kindB d)) := by
  have h := law_is_name_eq f
  have e : eqM d (.str "") = .ret (.bl (strB "" d)) := eq_s "" f.sh (by decide +kernel)
  have o := f.ob
  unfold M__law_is_kind b__law_is_kind
  simp only [runB, startE, sSeq, sIf, sRet, sSet, sPar, sNil, sDrop, eBin, eUn, eC, eVar, eAnd, eOr, eNot, notD, eF, eCL, L1, L1N, nCL, aCons, aNil, eTup, nLst, eN, tV, tTru, asB, tru, tOrM, tAndM, tNotM, eIf, eSl, pSome, pNo, nUn, M.ret_bind, List.map_cons, List.map_nil, List.length_cons, List.length_nil, List.replicate, List.cons_append, List.nil_append, List.getElem?_cons_zero, List.getElem?_cons_succ, List.set_cons_zero, List.set_cons_succ, h, if_true, e, isi_s o]
  cases d with
  | str s => cases hn : strB "" (.str s) <;> simp [kindB, hn, runB, startE, sSeq, sIf, sRet, sSet, sPar, sNil, sDrop, eBin, eUn, eC, eVar, eAnd, eOr, eNot, notD, eF, eCL, L1, L1N, nCL, aCons, aNil, eTup, nLst, eN, tV, tTru, asB, tru, tOrM, tAndM, tNotM, eIf, eSl, pSome, pNo, nUn, M.ret_bind, List.map_cons, List.map_nil, List.length_cons, List.length_nil, List.replicate, List.cons_append, List.nil_append, List.getElem?_cons_zero, List.getElem?_cons_succ, List.set_cons_zero, List.set_cons_succ]
  | obj _ => cases o
  | scr _ => cases o
  | _ => rfl
def twoB : D → Bool
  | .tup [_, _] => true
  | _ => false
theorem is_pair_eq {d : D} (h : d.ob = false) : M_is_pair [d] = .ret (.bl (twoB d)) := by
  cases d with
  | obj _ => cases h
  | scr _ => cases h
  | tup xs =>
    unfold M_is_pair b_is_pair
    simp only [runB, startE, sSeq, sIf, sRet, sSet, sPar, sNil, sDrop, eBin, eUn, eC, eVar, eAnd, eOr, eNot, notD, eF, eCL, L1, L1N, nCL, aCons, aNil, eTup, nLst, eN, tV, tTru, asB, tru, tOrM, tAndM, tNotM, eIf, eSl, pSome, pNo, nUn, M.ret_bind, List.map_cons, List.map_nil, List.length_cons, List.length_nil, List.replicate, List.cons_append, List.nil_append, List.getElem?_cons_zero, List.getElem?_cons_succ, List.set_cons_zero, List.set_cons_succ, isi_ti, len_t, eq_i]
    match xs with
    | [] => rfl
    | [_] => rfl
    | [_, _] => rfl
    | a :: b :: c :: r =>
      have : (((a :: b :: c :: r : List D).length : Int) == 2) = false := by
        rw [beq_eq_false_iff_ne]; simp only [List.length_cons]; omega
      rw [this]; rfl
  | _ => rfl
theorem ix0 (a : D) (r : List D) : idxM (.tup (a :: r)) (.int 0) = .ret a := by
  have : atI (a :: r) 0 = some a := by
    unfold atI ixN
    rw [if_pos (by decide), if_pos (by simp only [List.length_cons]; omega)]; rfl
  show (match atI (a :: r) 0 with | some x => M.ret x | none => .bad) = _
  rw [this]
theorem ix1 (a b : D) (r : List D) : idxM (.tup (a :: b :: r)) (.int 1) = .ret b := by
  have : atI (a :: b :: r) 1 = some b := by
    unfold atI ixN
    rw [if_pos (by decide), if_pos (by simp only [List.length_cons]; omega)]; rfl
  show (match atI (a :: b :: r) 1 with | some x => M.ret x | none => .bad) = _
  rw [this]
theorem ix2 (a b c : D) (r : List D) : idxM (.tup (a :: b :: c :: r)) (.int 2) = .ret c := by
  have : atI (a :: b :: c :: r) 2 = some c := by
    unfold atI ixN
    rw [if_pos (by decide), if_pos (by simp only [List.length_cons]; omega)]; rfl
  show (match atI (a :: b :: c :: r) 2 with | some x => M.ret x | none => .bad) = _
  rw [this]
theorem sl1 (a : D) (r : List D) : sliceM (some 1) none (.tup (a :: r)) = .ret (.tup r) := by
  show M.ret (D.tup (cutL (a :: r) (some 1) none)) = _
  have : cutL (a :: r) (some 1) none = r := by
    unfold cutL
    rw [HT.sIx_none]
    have e : HT.sIx (a :: r).length 0 (some 1) = 1 := by
      rw [show (some (1 : Int)) = some ((1 : Nat) : Int) from rfl, HT.sIx_nat]; simp
    rw [e]
    simp
  rw [this]
theorem in2 {d : D} (y z : Str) (h : d.sh = true) (hy : PyData.strOk y = true) (hz : PyData.strOk z = true) : inM false d (.tup [.str y, .str z]) = .ret (.bl (strB y d || strB z d)) := by
  have := in_s (ys := [y, z]) h (by simp [hy, hz])
  simpa using this
theorem is_sort_eq {d : D} (f : Fit d) : M_is_sort [d] = .ret (.bl (sortB d)) := by
  have o := f.ob
  have e := in2 "if" "loop" f.sh (by decide +kernel) (by decide +kernel)
  have hp := is_pair_eq o
  unfold M_is_sort b_is_sort
  cases d with
  | obj _ => cases o
  | scr _ => cases o
  | str s =>
    simp only [runB, startE, sSeq, sIf, sRet, sSet, sPar, sNil, sDrop, eBin, eUn, eC, eVar, eAnd, eOr, eNot, notD, eF, eCL, L1, L1N, nCL, aCons, aNil, eTup, nLst, eN, tV, tTru, asB, tru, tOrM, tAndM, tNotM, eIf, eSl, pSome, pNo, nUn, M.ret_bind, List.map_cons, List.map_nil, List.length_cons, List.length_nil, List.replicate, List.cons_append, List.nil_append, List.getElem?_cons_zero, List.getElem?_cons_succ, List.set_cons_zero, List.set_cons_succ, isi_ss, e, Nat.le_refl, if_true, show (2 : Nat) ≤ sizeLine from by decide]
    rfl
  | tup xs =>
    match xs with
    | [] => rfl
    | [_] => rfl
    | [a, b] =>
      have fa := f.mem a (by simp)
      have fb := f.mem b (by simp)
      have hk := is_kind_eq fb
      have he := eq_s "fun" fa.sh (by decide +kernel)
      have hi : isiM "str" (.tup [a, b]) = .ret (.bl false) := rfl
      simp only [runB, startE, sSeq, sIf, sRet, sSet, sPar, sNil, sDrop, eBin, eUn, eC, eVar, eAnd, eOr, eNot, notD, eF, eCL, L1, L1N, nCL, aCons, aNil, eTup, nLst, eN, tV, tTru, asB, tru, tOrM, tAndM, tNotM, eIf, eSl, pSome, pNo, nUn, M.ret_bind, List.map_cons, List.map_nil, List.length_cons, List.length_nil, List.replicate, List.cons_append, List.nil_append, List.getElem?_cons_zero, List.getElem?_cons_succ, List.set_cons_zero, List.set_cons_succ, hi, hp, ix0, ix1, he, hk, if_true, twoB]
      cases h : strB "fun" a <;> simp [sortB, h, runB, startE, sSeq, sIf, sRet, sSet, sPar, sNil, sDrop, eBin, eUn, eC, eVar, eAnd, eOr, eNot, notD, eF, eCL, L1, L1N, nCL, aCons, aNil, eTup, nLst, eN, tV, tTru, asB, tru, tOrM, tAndM, tNotM, eIf, eSl, pSome, pNo, nUn, M.ret_bind, List.map_cons, List.map_nil, List.length_cons, List.length_nil, List.replicate, List.cons_append, List.nil_append, List.getElem?_cons_zero, List.getElem?_cons_succ, List.set_cons_zero, List.set_cons_succ]
    | a :: b :: c :: r =>
      have hi : isiM "str" (.tup (a :: b :: c :: r)) = .ret (.bl false) := rfl
      simp only [runB, startE, sSeq, sIf, sRet, sSet, sPar, sNil, sDrop, eBin, eUn, eC, eVar, eAnd, eOr, eNot, notD, eF, eCL, L1, L1N, nCL, aCons, aNil, eTup, nLst, eN, tV, tTru, asB, tru, tOrM, tAndM, tNotM, eIf, eSl, pSome, pNo, nUn, M.ret_bind, List.map_cons, List.map_nil, List.length_cons, List.length_nil, List.replicate, List.cons_append, List.nil_append, List.getElem?_cons_zero, List.getElem?_cons_succ, List.set_cons_zero, List.set_cons_succ, hi, hp, if_true, twoB]
      rfl
  | _ => rfl
theorem law_is_sort_eq {d : D} (f : Fit d) : M__law_is_sort [d] = .ret (.bl (sortB d)) := by
  have o := f.ob
  have e := in2 "if" "loop" f.sh (by decide +kernel) (by decide +kernel)
  unfold M__law_is_sort b__law_is_sort
  cases d with
  | obj _ => cases o
  | scr _ => cases o
  | str s =>
    simp only [runB, startE, sSeq, sIf, sRet, sSet, sPar, sNil, sDrop, eBin, eUn, eC, eVar, eAnd, eOr, eNot, notD, eF, eCL, L1, L1N, nCL, aCons, aNil, eTup, nLst, eN, tV, tTru, asB, tru, tOrM, tAndM, tNotM, eIf, eSl, pSome, pNo, nUn, M.ret_bind, List.map_cons, List.map_nil, List.length_cons, List.length_nil, List.replicate, List.cons_append, List.nil_append, List.getElem?_cons_zero, List.getElem?_cons_succ, List.set_cons_zero, List.set_cons_succ, isi_ss, e, Nat.le_refl, if_true, show (2 : Nat) ≤ sizeLine from by decide]
    rfl
  | tup xs =>
    match xs with
    | [] => rfl
    | [_] => rfl
    | [a, b] =>
      have fa := f.mem a (by simp)
      have fb := f.mem b (by simp)
      have hk := law_is_kind_eq fb
      have he := eq_s "fun" fa.sh (by decide +kernel)
      have hi : isiM "str" (.tup [a, b]) = .ret (.bl false) := rfl
      have h2 : ((2 : Int) == 2) = true := rfl
      simp only [runB, startE, sSeq, sIf, sRet, sSet, sPar, sNil, sDrop, eBin, eUn, eC, eVar, eAnd, eOr, eNot, notD, eF, eCL, L1, L1N, nCL, aCons, aNil, eTup, nLst, eN, tV, tTru, asB, tru, tOrM, tAndM, tNotM, eIf, eSl, pSome, pNo, nUn, M.ret_bind, List.map_cons, List.map_nil, List.length_cons, List.length_nil, List.replicate, List.cons_append, List.nil_append, List.getElem?_cons_zero, List.getElem?_cons_succ, List.set_cons_zero, List.set_cons_succ, hi, isi_ti, len_t, ne_i, ix0, ix1, he, hk, if_true, isi_s fa.ob, Bool.not_true, Bool.not_false]
      cases a with
      | str s => cases h : strB "fun" (.str s) <;> simp [sortB, h, ix0, ix1, he, hk, runB, startE, sSeq, sIf, sRet, sSet, sPar, sNil, sDrop, eBin, eUn, eC, eVar, eAnd, eOr, eNot, notD, eF, eCL, L1, L1N, nCL, aCons, aNil, eTup, nLst, eN, tV, tTru, asB, tru, tOrM, tAndM, tNotM, eIf, eSl, pSome, pNo, nUn, M.ret_bind, List.map_cons, List.map_nil, List.length_cons, List.length_nil, List.replicate, List.cons_append, List.nil_append, List.getElem?_cons_zero, List.getElem?_cons_succ, List.set_cons_zero, List.set_cons_succ]
      | _ => simp [sortB, strB]
    | a :: b :: c :: r =>
      have hi : isiM "str" (.tup (a :: b :: c :: r)) = .ret (.bl false) := rfl
      have : (((a :: b :: c :: r : List D).length : Int) == 2) = false := by
        rw [beq_eq_false_iff_ne]; simp only [List.length_cons]; omega
      simp only [runB, startE, sSeq, sIf, sRet, sSet, sPar, sNil, sDrop, eBin, eUn, eC, eVar, eAnd, eOr, eNot, notD, eF, eCL, L1, L1N, nCL, aCons, aNil, eTup, nLst, eN, tV, tTru, asB, tru, tOrM, tAndM, tNotM, eIf, eSl, pSome, pNo, nUn, M.ret_bind, List.map_cons, List.map_nil, List.length_cons, List.length_nil, List.replicate, List.cons_append, List.nil_append, List.getElem?_cons_zero, List.getElem?_cons_succ, List.set_cons_zero, List.set_cons_succ, hi, isi_ti, len_t, ne_i, Bool.not_true, Bool.not_false]
      simp only [List.length_cons] at this
      simp only [this, runB, startE, sSeq, sIf, sRet, sSet, sPar, sNil, sDrop, eBin, eUn, eC, eVar, eAnd, eOr, eNot, notD, eF, eCL, L1, L1N, nCL, aCons, aNil, eTup, nLst, eN, tV, tTru, asB, tru, tOrM, tAndM, tNotM, eIf, eSl, pSome, pNo, nUn, M.ret_bind, List.map_cons, List.map_nil, List.length_cons, List.length_nil, List.replicate, List.cons_append, List.nil_append, List.getElem?_cons_zero, List.getElem?_cons_succ, List.set_cons_zero, List.set_cons_succ, Bool.not_false]
      rfl
  | _ => rfl
end G
namespace G
open PySem PySem.Spec PyProof.Rows L2 F
def isS : D → Bool
  | .str _ => true
  | _ => false
theorem isi_s' {d : D} (h : d.ob = false) : isiM "str" d = .ret (.bl (isS d)) := by
  cases d <;> first | rfl | cases h
theorem row_other {a : D} (r : List D) (h : isS a = false) : rowB (.tup (a :: r)) = false := by
  cases a with
  | str s => cases h
  | _ =>
    match r with
    | [] => rfl
    | [_] => rfl
    | [_, _] => rfl
    | _ :: _ :: _ :: _ => rfl
/-- long tuples -/
theorem long {a b c : D} (r : List D) : ∃ m : Int, lenM (.tup (a :: b :: c :: r)) = .ret (.int m) ∧ 3 ≤ m := ⟨_, rfl, by simp only [List.length_cons]; omega⟩
theorem eq_no {a b : Int} (h : a ≠ b) : eqM (.int a) (.int b) = .ret (.bl false) := by rw [eq_i, beq_eq_false_iff_ne.mpr h]
theorem ne_yes {a b : Int} (h : a ≠ b) : neM (.int a) (.int b) = .ret (.bl true) := by rw [ne_i, beq_eq_false_iff_ne.mpr h]; rfl
theorem str_ne {s : Str} {y z : Str} (h : strB y (.str s) = true) (hn : (y == z) = false) : strB z (.str s) = false := by
  have : s = y := by simpa [strB] using h
  subst this
  exact hn
theorem in2t (d : D) (h : d.sh = true) : eTup (aCons (eC (.str "end")) (aCons (eC (.str "stop")) aNil)) = eTup (aCons (eC (.str "end")) (aCons (eC (.str "stop")) aNil)) := rfl
theorem sz2 : (2 : Nat) ≤ sizeLine := by decide
theorem is_row_eq {d : D} (f : Fit d) : M_is_row [d] = .ret (.bl (rowB d)) := by
  have o := f.ob
  cases d with
  | obj _ => cases o
  | scr _ => cases o
  | tup xs =>
    match xs, f with
    | [], f => rfl
    | a :: r, f =>
      have fa := f.mem a (by simp)
      have h1 := in2 "end" "stop" fa.sh (by decide +kernel) (by decide +kernel)
      have h2 := in2 "let" "use" fa.sh (by decide +kernel) (by decide +kernel)
      have h3 := eq_s "open" fa.sh (by decide +kernel)
      have h4 := eq_s "give" fa.sh (by decide +kernel)
      have is := isi_s' fa.ob
      have lt : ∃ m : Int, lenM (.tup (a :: r)) = .ret (.int m) ∧ 1 ≤ m := ⟨_, rfl, by simp only [List.length_cons]; omega⟩
      obtain ⟨m, lt, hm⟩ := lt
      have e0 : eqM (.int m) (.int 0) = .ret (.bl false) := eq_no (by omega)
      unfold M_is_row b_is_row
      cases hs : isS a with
      | false => simp [runB, startE, sSeq, sIf, sRet, sSet, sPar, sNil, sDrop, eBin, eUn, eC, eVar, eAnd, eOr, eNot, notD, eF, eCL, L1, L1N, nCL, aCons, aNil, eTup, nLst, eN, tV, tTru, asB, tru, tOrM, tAndM, tNotM, eIf, eSl, pSome, pNo, nUn, M.ret_bind, List.map_cons, List.map_nil, List.length_cons, List.length_nil, List.replicate, List.cons_append, List.nil_append, List.getElem?_cons_zero, List.getElem?_cons_succ, List.set_cons_zero, List.set_cons_succ, isi_ti, lt, e0, ix0, is, hs, row_other r hs]
      | true =>
        have sl := sl1 a r
        cases a with
        | str s =>
          match r, f with
          | [], f =>
            have l0 : lenM (.tup []) = .ret (.int 0) := rfl
            cases q1 : strB "end" (.str s) <;> cases q1' : strB "stop" (.str s) <;> cases q2 : strB "let" (.str s) <;> cases q2' : strB "use" (.str s) <;>
              simp [runB, startE, sSeq, sIf, sRet, sSet, sPar, sNil, sDrop, eBin, eUn, eC, eVar, eAnd, eOr, eNot, notD, eF, eCL, L1, L1N, nCL, aCons, aNil, eTup, nLst, eN, tV, tTru, asB, tru, tOrM, tAndM, tNotM, eIf, eSl, pSome, pNo, nUn, M.ret_bind, List.map_cons, List.map_nil, List.length_cons, List.length_nil, List.replicate, List.cons_append, List.nil_append, List.getElem?_cons_zero, List.getElem?_cons_succ, List.set_cons_zero, List.set_cons_succ, isi_ti, lt, e0, ix0, is, hs, sl, h1, h2, h3, h4, q1, q1', q2, q2', l0, eq_i, ne_i, rowB, sz2]
          | [b], f =>
            have fb := f.mem b (by simp)
            have k1 := is_sort_eq fb
            have k2 := is_kind_eq fb
            have l1 : lenM (.tup [b]) = .ret (.int 1) := rfl
            cases q1 : strB "end" (.str s) with
            | true =>
              have n1 := str_ne (z := "open") q1 (by decide +kernel)
              have n2 := str_ne (z := "give") q1 (by decide +kernel)
              simp [runB, startE, sSeq, sIf, sRet, sSet, sPar, sNil, sDrop, eBin, eUn, eC, eVar, eAnd, eOr, eNot, notD, eF, eCL, L1, L1N, nCL, aCons, aNil, eTup, nLst, eN, tV, tTru, asB, tru, tOrM, tAndM, tNotM, eIf, eSl, pSome, pNo, nUn, M.ret_bind, List.map_cons, List.map_nil, List.length_cons, List.length_nil, List.replicate, List.cons_append, List.nil_append, List.getElem?_cons_zero, List.getElem?_cons_succ, List.set_cons_zero, List.set_cons_succ, isi_ti, lt, e0, ix0, is, hs, sl, h1, h2, h3, h4, q1, n1, n2, l1, eq_i, ne_i, rowB, sz2]
            | false =>
            cases q1' : strB "stop" (.str s) with
            | true =>
              have n1 := str_ne (z := "open") q1' (by decide +kernel)
              have n2 := str_ne (z := "give") q1' (by decide +kernel)
              simp [runB, startE, sSeq, sIf, sRet, sSet, sPar, sNil, sDrop, eBin, eUn, eC, eVar, eAnd, eOr, eNot, notD, eF, eCL, L1, L1N, nCL, aCons, aNil, eTup, nLst, eN, tV, tTru, asB, tru, tOrM, tAndM, tNotM, eIf, eSl, pSome, pNo, nUn, M.ret_bind, List.map_cons, List.map_nil, List.length_cons, List.length_nil, List.replicate, List.cons_append, List.nil_append, List.getElem?_cons_zero, List.getElem?_cons_succ, List.set_cons_zero, List.set_cons_succ, isi_ti, lt, e0, ix0, is, hs, sl, h1, h2, h3, h4, q1, q1', n1, n2, l1, eq_i, ne_i, rowB, sz2]
            | false =>
            cases q2 : strB "let" (.str s) with
            | true =>
              have n1 := str_ne (z := "open") q2 (by decide +kernel)
              have n2 := str_ne (z := "give") q2 (by decide +kernel)
              simp [runB, startE, sSeq, sIf, sRet, sSet, sPar, sNil, sDrop, eBin, eUn, eC, eVar, eAnd, eOr, eNot, notD, eF, eCL, L1, L1N, nCL, aCons, aNil, eTup, nLst, eN, tV, tTru, asB, tru, tOrM, tAndM, tNotM, eIf, eSl, pSome, pNo, nUn, M.ret_bind, List.map_cons, List.map_nil, List.length_cons, List.length_nil, List.replicate, List.cons_append, List.nil_append, List.getElem?_cons_zero, List.getElem?_cons_succ, List.set_cons_zero, List.set_cons_succ, isi_ti, lt, e0, ix0, is, hs, sl, h1, h2, h3, h4, q1, q1', q2, n1, n2, l1, eq_i, ne_i, rowB, sz2]
            | false =>
            cases q2' : strB "use" (.str s) with
            | true =>
              have n1 := str_ne (z := "open") q2' (by decide +kernel)
              have n2 := str_ne (z := "give") q2' (by decide +kernel)
              simp [runB, startE, sSeq, sIf, sRet, sSet, sPar, sNil, sDrop, eBin, eUn, eC, eVar, eAnd, eOr, eNot, notD, eF, eCL, L1, L1N, nCL, aCons, aNil, eTup, nLst, eN, tV, tTru, asB, tru, tOrM, tAndM, tNotM, eIf, eSl, pSome, pNo, nUn, M.ret_bind, List.map_cons, List.map_nil, List.length_cons, List.length_nil, List.replicate, List.cons_append, List.nil_append, List.getElem?_cons_zero, List.getElem?_cons_succ, List.set_cons_zero, List.set_cons_succ, isi_ti, lt, e0, ix0, is, hs, sl, h1, h2, h3, h4, q1, q1', q2, q2', n1, n2, l1, eq_i, ne_i, rowB, sz2]
            | false =>
            cases q3 : strB "open" (.str s) with
            | true =>
              have n2 := str_ne (z := "give") q3 (by decide +kernel)
              simp [runB, startE, sSeq, sIf, sRet, sSet, sPar, sNil, sDrop, eBin, eUn, eC, eVar, eAnd, eOr, eNot, notD, eF, eCL, L1, L1N, nCL, aCons, aNil, eTup, nLst, eN, tV, tTru, asB, tru, tOrM, tAndM, tNotM, eIf, eSl, pSome, pNo, nUn, M.ret_bind, List.map_cons, List.map_nil, List.length_cons, List.length_nil, List.replicate, List.cons_append, List.nil_append, List.getElem?_cons_zero, List.getElem?_cons_succ, List.set_cons_zero, List.set_cons_succ, isi_ti, lt, e0, ix0, is, hs, sl, h1, h2, h3, h4, q1, q1', q2, q2', q3, n2, l1, eq_i, ne_i, rowB, sz2, k1, k2]
            | false =>
              cases q4 : strB "give" (.str s) <;> simp [runB, startE, sSeq, sIf, sRet, sSet, sPar, sNil, sDrop, eBin, eUn, eC, eVar, eAnd, eOr, eNot, notD, eF, eCL, L1, L1N, nCL, aCons, aNil, eTup, nLst, eN, tV, tTru, asB, tru, tOrM, tAndM, tNotM, eIf, eSl, pSome, pNo, nUn, M.ret_bind, List.map_cons, List.map_nil, List.length_cons, List.length_nil, List.replicate, List.cons_append, List.nil_append, List.getElem?_cons_zero, List.getElem?_cons_succ, List.set_cons_zero, List.set_cons_succ, isi_ti, lt, e0, ix0, is, hs, sl, h1, h2, h3, h4, q1, q1', q2, q2', q3, q4, l1, eq_i, ne_i, rowB, sz2, k1, k2]
          | [b, c], f =>
            have fb := f.mem b (by simp)
            have fc := f.mem c (by simp)
            have k1 := is_name_eq fb
            have k2 := is_name_eq fc
            have l2 : lenM (.tup [b, c]) = .ret (.int 2) := rfl
            cases q1 : strB "end" (.str s) with
            | true =>
              have n1 := str_ne (z := "let") q1 (by decide +kernel)
              have n2 := str_ne (z := "use") q1 (by decide +kernel)
              simp [runB, startE, sSeq, sIf, sRet, sSet, sPar, sNil, sDrop, eBin, eUn, eC, eVar, eAnd, eOr, eNot, notD, eF, eCL, L1, L1N, nCL, aCons, aNil, eTup, nLst, eN, tV, tTru, asB, tru, tOrM, tAndM, tNotM, eIf, eSl, pSome, pNo, nUn, M.ret_bind, List.map_cons, List.map_nil, List.length_cons, List.length_nil, List.replicate, List.cons_append, List.nil_append, List.getElem?_cons_zero, List.getElem?_cons_succ, List.set_cons_zero, List.set_cons_succ, isi_ti, lt, e0, ix0, is, hs, sl, h1, h2, h3, h4, q1, n1, n2, l2, eq_i, ne_i, rowB, sz2]
            | false =>
            cases q1' : strB "stop" (.str s) with
            | true =>
              have n1 := str_ne (z := "let") q1' (by decide +kernel)
              have n2 := str_ne (z := "use") q1' (by decide +kernel)
              simp [runB, startE, sSeq, sIf, sRet, sSet, sPar, sNil, sDrop, eBin, eUn, eC, eVar, eAnd, eOr, eNot, notD, eF, eCL, L1, L1N, nCL, aCons, aNil, eTup, nLst, eN, tV, tTru, asB, tru, tOrM, tAndM, tNotM, eIf, eSl, pSome, pNo, nUn, M.ret_bind, List.map_cons, List.map_nil, List.length_cons, List.length_nil, List.replicate, List.cons_append, List.nil_append, List.getElem?_cons_zero, List.getElem?_cons_succ, List.set_cons_zero, List.set_cons_succ, isi_ti, lt, e0, ix0, is, hs, sl, h1, h2, h3, h4, q1, q1', n1, n2, l2, eq_i, ne_i, rowB, sz2]
            | false =>
            cases q2 : strB "let" (.str s) <;> cases q2' : strB "use" (.str s) <;> cases q5 : nameB b <;>
              simp [runB, startE, sSeq, sIf, sRet, sSet, sPar, sNil, sDrop, eBin, eUn, eC, eVar, eAnd, eOr, eNot, notD, eF, eCL, L1, L1N, nCL, aCons, aNil, eTup, nLst, eN, tV, tTru, asB, tru, tOrM, tAndM, tNotM, eIf, eSl, pSome, pNo, nUn, M.ret_bind, List.map_cons, List.map_nil, List.length_cons, List.length_nil, List.replicate, List.cons_append, List.nil_append, List.getElem?_cons_zero, List.getElem?_cons_succ, List.set_cons_zero, List.set_cons_succ, isi_ti, lt, e0, ix0, ix1, is, hs, sl, h1, h2, h3, h4, q1, q1', q2, q2', l2, eq_i, ne_i, rowB, sz2, k1, k2, q5]
          | b :: c :: e :: r', f =>
            obtain ⟨n, ln, hn⟩ := long (a := b) (b := c) (c := e) r'
            have g0 : eqM (.int n) (.int 0) = .ret (.bl false) := eq_no (by omega)
            have g2 : eqM (.int n) (.int 2) = .ret (.bl false) := eq_no (by omega)
            have g1 : neM (.int n) (.int 1) = .ret (.bl true) := ne_yes (by omega)
            cases q1 : (strB "end" (.str s) || strB "stop" (.str s)) <;> cases q2 : (strB "let" (.str s) || strB "use" (.str s)) <;>
              simp [runB, startE, sSeq, sIf, sRet, sSet, sPar, sNil, sDrop, eBin, eUn, eC, eVar, eAnd, eOr, eNot, notD, eF, eCL, L1, L1N, nCL, aCons, aNil, eTup, nLst, eN, tV, tTru, asB, tru, tOrM, tAndM, tNotM, eIf, eSl, pSome, pNo, nUn, M.ret_bind, List.map_cons, List.map_nil, List.length_cons, List.length_nil, List.replicate, List.cons_append, List.nil_append, List.getElem?_cons_zero, List.getElem?_cons_succ, List.set_cons_zero, List.set_cons_succ, isi_ti, lt, e0, ix0, ix1, is, hs, sl, h1, h2, h3, h4, q1, q2, ln, g0, g1, g2, rowB, sz2, -Bool.or_eq_true, -Bool.or_eq_false_iff]
        | _ => cases hs
  | _ => rfl
end G
namespace G
open PySem PySem.Spec PyProof.Rows L2 F
theorem law_is_item_eq {d : D} (f : Fit d) : M__law_is_item [d] = .ret (.bl (rowB d)) := by
  have o := f.ob
  cases d with
  | obj _ => cases o
  | scr _ => cases o
  | tup xs =>
    match xs, f with
    | [], f => rfl
    | a :: r, f =>
      have fa := f.mem a (by simp)
      have h1 := in2 "end" "stop" fa.sh (by decide +kernel) (by decide +kernel)
      have h2 := in2 "let" "use" fa.sh (by decide +kernel) (by decide +kernel)
      have h3 := eq_s "open" fa.sh (by decide +kernel)
      have h4 := eq_s "give" fa.sh (by decide +kernel)
      have is := isi_s' fa.ob
      have lt : ∃ m : Int, lenM (.tup (a :: r)) = .ret (.int m) ∧ 1 ≤ m := ⟨_, rfl, by simp only [List.length_cons]; omega⟩
      unfold M__law_is_item b__law_is_item
      cases hs : isS a with
      | false =>
        obtain ⟨m, lt, hm⟩ := lt
        have e0 : eqM (.int m) (.int 0) = .ret (.bl false) := eq_no (by omega)
        simp [runB, startE, sSeq, sIf, sRet, sSet, sPar, sNil, sDrop, eBin, eUn, eC, eVar, eAnd, eOr, eNot, notD, eF, eCL, L1, L1N, nCL, aCons, aNil, eTup, nLst, eN, tV, tTru, asB, tru, tOrM, tAndM, tNotM, eIf, eSl, pSome, pNo, nUn, M.ret_bind, List.map_cons, List.map_nil, List.length_cons, List.length_nil, List.replicate, List.cons_append, List.nil_append, List.getElem?_cons_zero, List.getElem?_cons_succ, List.set_cons_zero, List.set_cons_succ, isi_ti, lt, e0, ix0, is, hs, row_other r hs]
      | true =>
        cases a with
        | str s =>
          match r, f with
          | [], f =>
            have l0 : lenM (.tup [.str s]) = .ret (.int 1) := rfl
            cases q1 : strB "end" (.str s) with
            | true => simp [runB, startE, sSeq, sIf, sRet, sSet, sPar, sNil, sDrop, eBin, eUn, eC, eVar, eAnd, eOr, eNot, notD, eF, eCL, L1, L1N, nCL, aCons, aNil, eTup, nLst, eN, tV, tTru, asB, tru, tOrM, tAndM, tNotM, eIf, eSl, pSome, pNo, nUn, M.ret_bind, List.map_cons, List.map_nil, List.length_cons, List.length_nil, List.replicate, List.cons_append, List.nil_append, List.getElem?_cons_zero, List.getElem?_cons_succ, List.set_cons_zero, List.set_cons_succ, isi_ti, is, hs, h1, h2, h3, h4, eq_i, ne_i, rowB, sz2, ix0, l0, q1]
            | false =>
            cases q1' : strB "stop" (.str s) with
            | true => simp [runB, startE, sSeq, sIf, sRet, sSet, sPar, sNil, sDrop, eBin, eUn, eC, eVar, eAnd, eOr, eNot, notD, eF, eCL, L1, L1N, nCL, aCons, aNil, eTup, nLst, eN, tV, tTru, asB, tru, tOrM, tAndM, tNotM, eIf, eSl, pSome, pNo, nUn, M.ret_bind, List.map_cons, List.map_nil, List.length_cons, List.length_nil, List.replicate, List.cons_append, List.nil_append, List.getElem?_cons_zero, List.getElem?_cons_succ, List.set_cons_zero, List.set_cons_succ, isi_ti, is, hs, h1, h2, h3, h4, eq_i, ne_i, rowB, sz2, ix0, l0, q1, q1']
            | false =>
            cases q3 : strB "open" (.str s) <;> cases q4 : strB "give" (.str s) <;> cases q2 : strB "let" (.str s) <;> cases q2' : strB "use" (.str s) <;>
              simp [runB, startE, sSeq, sIf, sRet, sSet, sPar, sNil, sDrop, eBin, eUn, eC, eVar, eAnd, eOr, eNot, notD, eF, eCL, L1, L1N, nCL, aCons, aNil, eTup, nLst, eN, tV, tTru, asB, tru, tOrM, tAndM, tNotM, eIf, eSl, pSome, pNo, nUn, M.ret_bind, List.map_cons, List.map_nil, List.length_cons, List.length_nil, List.replicate, List.cons_append, List.nil_append, List.getElem?_cons_zero, List.getElem?_cons_succ, List.set_cons_zero, List.set_cons_succ, isi_ti, is, hs, h1, h2, h3, h4, eq_i, ne_i, rowB, sz2, ix0, l0, q1, q1', q2, q2', q3, q4]
          | [b], f =>
            have fb := f.mem b (by simp)
            have k1 := law_is_sort_eq fb
            have k2 := law_is_kind_eq fb
            have l1 : lenM (.tup [.str s, b]) = .ret (.int 2) := rfl
            cases q1 : strB "end" (.str s) with
            | true =>
              have n1 := str_ne (z := "open") q1 (by decide +kernel)
              have n2 := str_ne (z := "give") q1 (by decide +kernel)
              simp [runB, startE, sSeq, sIf, sRet, sSet, sPar, sNil, sDrop, eBin, eUn, eC, eVar, eAnd, eOr, eNot, notD, eF, eCL, L1, L1N, nCL, aCons, aNil, eTup, nLst, eN, tV, tTru, asB, tru, tOrM, tAndM, tNotM, eIf, eSl, pSome, pNo, nUn, M.ret_bind, List.map_cons, List.map_nil, List.length_cons, List.length_nil, List.replicate, List.cons_append, List.nil_append, List.getElem?_cons_zero, List.getElem?_cons_succ, List.set_cons_zero, List.set_cons_succ, isi_ti, is, hs, h1, h2, h3, h4, eq_i, ne_i, rowB, sz2, ix0, l1, q1, n1, n2]
            | false =>
            cases q1' : strB "stop" (.str s) with
            | true =>
              have n1 := str_ne (z := "open") q1' (by decide +kernel)
              have n2 := str_ne (z := "give") q1' (by decide +kernel)
              simp [runB, startE, sSeq, sIf, sRet, sSet, sPar, sNil, sDrop, eBin, eUn, eC, eVar, eAnd, eOr, eNot, notD, eF, eCL, L1, L1N, nCL, aCons, aNil, eTup, nLst, eN, tV, tTru, asB, tru, tOrM, tAndM, tNotM, eIf, eSl, pSome, pNo, nUn, M.ret_bind, List.map_cons, List.map_nil, List.length_cons, List.length_nil, List.replicate, List.cons_append, List.nil_append, List.getElem?_cons_zero, List.getElem?_cons_succ, List.set_cons_zero, List.set_cons_succ, isi_ti, is, hs, h1, h2, h3, h4, eq_i, ne_i, rowB, sz2, ix0, l1, q1, q1', n1, n2]
            | false =>
            cases q3 : strB "open" (.str s) with
            | true =>
              have n2 := str_ne (z := "give") q3 (by decide +kernel)
              simp [runB, startE, sSeq, sIf, sRet, sSet, sPar, sNil, sDrop, eBin, eUn, eC, eVar, eAnd, eOr, eNot, notD, eF, eCL, L1, L1N, nCL, aCons, aNil, eTup, nLst, eN, tV, tTru, asB, tru, tOrM, tAndM, tNotM, eIf, eSl, pSome, pNo, nUn, M.ret_bind, List.map_cons, List.map_nil, List.length_cons, List.length_nil, List.replicate, List.cons_append, List.nil_append, List.getElem?_cons_zero, List.getElem?_cons_succ, List.set_cons_zero, List.set_cons_succ, isi_ti, is, hs, h1, h2, h3, h4, eq_i, ne_i, rowB, sz2, ix0, ix1, l1, q1, q1', q3, n2, k1]
            | false =>
            cases q4 : strB "give" (.str s) with
            | true => simp [runB, startE, sSeq, sIf, sRet, sSet, sPar, sNil, sDrop, eBin, eUn, eC, eVar, eAnd, eOr, eNot, notD, eF, eCL, L1, L1N, nCL, aCons, aNil, eTup, nLst, eN, tV, tTru, asB, tru, tOrM, tAndM, tNotM, eIf, eSl, pSome, pNo, nUn, M.ret_bind, List.map_cons, List.map_nil, List.length_cons, List.length_nil, List.replicate, List.cons_append, List.nil_append, List.getElem?_cons_zero, List.getElem?_cons_succ, List.set_cons_zero, List.set_cons_succ, isi_ti, is, hs, h1, h2, h3, h4, eq_i, ne_i, rowB, sz2, ix0, ix1, l1, q1, q1', q3, q4, k2]
            | false =>
            cases q2 : strB "let" (.str s) <;> cases q2' : strB "use" (.str s) <;> simp [runB, startE, sSeq, sIf, sRet, sSet, sPar, sNil, sDrop, eBin, eUn, eC, eVar, eAnd, eOr, eNot, notD, eF, eCL, L1, L1N, nCL, aCons, aNil, eTup, nLst, eN, tV, tTru, asB, tru, tOrM, tAndM, tNotM, eIf, eSl, pSome, pNo, nUn, M.ret_bind, List.map_cons, List.map_nil, List.length_cons, List.length_nil, List.replicate, List.cons_append, List.nil_append, List.getElem?_cons_zero, List.getElem?_cons_succ, List.set_cons_zero, List.set_cons_succ, isi_ti, is, hs, h1, h2, h3, h4, eq_i, ne_i, rowB, sz2, ix0, l1, q1, q1', q2, q2', q3, q4]
          | [b, c], f =>
            have fb := f.mem b (by simp)
            have fc := f.mem c (by simp)
            have k1 := law_is_name_eq fb
            have k2 := law_is_name_eq fc
            have l2 : lenM (.tup [.str s, b, c]) = .ret (.int 3) := rfl
            cases q1 : strB "end" (.str s) with
            | true =>
              have n1 := str_ne (z := "let") q1 (by decide +kernel)
              have n2 := str_ne (z := "use") q1 (by decide +kernel)
              simp [runB, startE, sSeq, sIf, sRet, sSet, sPar, sNil, sDrop, eBin, eUn, eC, eVar, eAnd, eOr, eNot, notD, eF, eCL, L1, L1N, nCL, aCons, aNil, eTup, nLst, eN, tV, tTru, asB, tru, tOrM, tAndM, tNotM, eIf, eSl, pSome, pNo, nUn, M.ret_bind, List.map_cons, List.map_nil, List.length_cons, List.length_nil, List.replicate, List.cons_append, List.nil_append, List.getElem?_cons_zero, List.getElem?_cons_succ, List.set_cons_zero, List.set_cons_succ, isi_ti, is, hs, h1, h2, h3, h4, eq_i, ne_i, rowB, sz2, ix0, l2, q1, n1, n2]
            | false =>
            cases q1' : strB "stop" (.str s) with
            | true =>
              have n1 := str_ne (z := "let") q1' (by decide +kernel)
              have n2 := str_ne (z := "use") q1' (by decide +kernel)
              simp [runB, startE, sSeq, sIf, sRet, sSet, sPar, sNil, sDrop, eBin, eUn, eC, eVar, eAnd, eOr, eNot, notD, eF, eCL, L1, L1N, nCL, aCons, aNil, eTup, nLst, eN, tV, tTru, asB, tru, tOrM, tAndM, tNotM, eIf, eSl, pSome, pNo, nUn, M.ret_bind, List.map_cons, List.map_nil, List.length_cons, List.length_nil, List.replicate, List.cons_append, List.nil_append, List.getElem?_cons_zero, List.getElem?_cons_succ, List.set_cons_zero, List.set_cons_succ, isi_ti, is, hs, h1, h2, h3, h4, eq_i, ne_i, rowB, sz2, ix0, l2, q1, q1', n1, n2]
            | false =>
            cases q3 : strB "open" (.str s) with
            | true =>
              have n1 := str_ne (z := "let") q3 (by decide +kernel)
              have n2 := str_ne (z := "use") q3 (by decide +kernel)
              simp [runB, startE, sSeq, sIf, sRet, sSet, sPar, sNil, sDrop, eBin, eUn, eC, eVar, eAnd, eOr, eNot, notD, eF, eCL, L1, L1N, nCL, aCons, aNil, eTup, nLst, eN, tV, tTru, asB, tru, tOrM, tAndM, tNotM, eIf, eSl, pSome, pNo, nUn, M.ret_bind, List.map_cons, List.map_nil, List.length_cons, List.length_nil, List.replicate, List.cons_append, List.nil_append, List.getElem?_cons_zero, List.getElem?_cons_succ, List.set_cons_zero, List.set_cons_succ, isi_ti, is, hs, h1, h2, h3, h4, eq_i, ne_i, rowB, sz2, ix0, l2, q1, q1', q3, n1, n2]
            | false =>
            cases q4 : strB "give" (.str s) with
            | true =>
              have n1 := str_ne (z := "let") q4 (by decide +kernel)
              have n2 := str_ne (z := "use") q4 (by decide +kernel)
              simp [runB, startE, sSeq, sIf, sRet, sSet, sPar, sNil, sDrop, eBin, eUn, eC, eVar, eAnd, eOr, eNot, notD, eF, eCL, L1, L1N, nCL, aCons, aNil, eTup, nLst, eN, tV, tTru, asB, tru, tOrM, tAndM, tNotM, eIf, eSl, pSome, pNo, nUn, M.ret_bind, List.map_cons, List.map_nil, List.length_cons, List.length_nil, List.replicate, List.cons_append, List.nil_append, List.getElem?_cons_zero, List.getElem?_cons_succ, List.set_cons_zero, List.set_cons_succ, isi_ti, is, hs, h1, h2, h3, h4, eq_i, ne_i, rowB, sz2, ix0, l2, q1, q1', q3, q4, n1, n2]
            | false =>
            cases q2 : strB "let" (.str s) <;> cases q2' : strB "use" (.str s) <;> cases q5 : nameB b <;>
              simp [runB, startE, sSeq, sIf, sRet, sSet, sPar, sNil, sDrop, eBin, eUn, eC, eVar, eAnd, eOr, eNot, notD, eF, eCL, L1, L1N, nCL, aCons, aNil, eTup, nLst, eN, tV, tTru, asB, tru, tOrM, tAndM, tNotM, eIf, eSl, pSome, pNo, nUn, M.ret_bind, List.map_cons, List.map_nil, List.length_cons, List.length_nil, List.replicate, List.cons_append, List.nil_append, List.getElem?_cons_zero, List.getElem?_cons_succ, List.set_cons_zero, List.set_cons_succ, isi_ti, is, hs, h1, h2, h3, h4, eq_i, ne_i, rowB, sz2, ix0, ix1, ix2, l2, q1, q1', q2, q2', q3, q4, k1, k2, q5]
          | b :: c :: e :: r', f =>
            obtain ⟨n, ln, hn⟩ : ∃ m : Int, lenM (.tup (.str s :: b :: c :: e :: r')) = .ret (.int m) ∧ 4 ≤ m := ⟨_, rfl, by simp only [List.length_cons]; omega⟩
            have g0 : eqM (.int n) (.int 0) = .ret (.bl false) := eq_no (by omega)
            have g1 : eqM (.int n) (.int 1) = .ret (.bl false) := eq_no (by omega)
            have g2 : eqM (.int n) (.int 2) = .ret (.bl false) := eq_no (by omega)
            have g3 : eqM (.int n) (.int 3) = .ret (.bl false) := eq_no (by omega)
            cases q1 : (strB "end" (.str s) || strB "stop" (.str s)) <;> cases q2 : (strB "let" (.str s) || strB "use" (.str s)) <;> cases q3 : strB "open" (.str s) <;> cases q4 : strB "give" (.str s) <;>
              simp [runB, startE, sSeq, sIf, sRet, sSet, sPar, sNil, sDrop, eBin, eUn, eC, eVar, eAnd, eOr, eNot, notD, eF, eCL, L1, L1N, nCL, aCons, aNil, eTup, nLst, eN, tV, tTru, asB, tru, tOrM, tAndM, tNotM, eIf, eSl, pSome, pNo, nUn, M.ret_bind, List.map_cons, List.map_nil, List.length_cons, List.length_nil, List.replicate, List.cons_append, List.nil_append, List.getElem?_cons_zero, List.getElem?_cons_succ, List.set_cons_zero, List.set_cons_succ, isi_ti, is, hs, h1, h2, h3, h4, rowB, sz2, ix0, ln, g0, g1, g2, g3, q1, q2, q3, q4, -Bool.or_eq_true, -Bool.or_eq_false_iff]
        | _ => cases hs
  | _ => rfl
end G
namespace G
open PySem PySem.Spec PyProof.Rows L2 F
theorem isi_t' {d : D} (h : d.ob = false) : isiM "tuple" d = .ret (.bl (tupB d)) := isi_t h
theorem not_tup {d : D} (h : tupB d = false) (o : d.ob = false) : isiM "tuple" d = .ret (.bl false) := by rw [isi_t o, h]
/-! ## texts -/
theorem is_text_eq {d : D} (f : Fit d) : M_is_text [d] = .ret (.bl (pageB d)) := by
  have o := f.ob
  unfold M_is_text b_is_text
  cases d with
  | tup xs =>
    have hn : nComp [1] (iAny (eVar 0)) (gN 1) tYesM (eF 1 M_is_row (aCons (eVar 1) aNil)) [.v (.tup xs), .no] = .ret (xs.map fun d => .bl (rowB d)) :=
      nComp_map _ rfl (sz1000 f.len) fun d hd => ⟨_, rfl, is_row_eq (f.mem d hd)⟩
    simp [runB, startE, sSeq, sIf, sRet, sSet, sPar, sNil, sDrop, eBin, eUn, eC, eVar, eAnd, eOr, eNot, notD, eF, eCL, L1, L1N, nCL, aCons, aNil, eTup, nLst, eN, tV, tTru, asB, tru, tOrM, tAndM, tNotM, eIf, eSl, pSome, pNo, nUn, M.ret_bind, List.map_cons, List.map_nil, List.length_cons, List.length_nil, List.replicate, List.cons_append, List.nil_append, List.getElem?_cons_zero, List.getElem?_cons_succ, List.set_cons_zero, List.set_cons_succ, isi_ti, hn, all_l, pageB, tupB, itms]
  | obj _ => cases o
  | scr _ => cases o
  | _ => rfl
theorem fit_lst {xs : List D} (f : Fit (.tup xs)) : (D.lst xs).sh = true := sh_lst.mpr (sh_tup.mp f.sh)
theorem law_is_page_eq {d : D} (f : Fit d) : M__law_is_page [d] = .ret (.bl (pageB d)) := by
  have o := f.ob
  unfold M__law_is_page b__law_is_page
  cases d with
  | tup xs =>
    have hn : nComp [1] (iAny (eVar 0)) (gN 1) (tNotM (tTru (eF 1 M__law_is_item (aCons (eVar 1) aNil)))) (eVar 1) [.v (.tup xs), .no] = .ret ((xs.filter fun d => !rowB d).map id) :=
      nComp_pure _ _ rfl (sz1000 f.len) fun d hd => ⟨_, rfl, by
        show (M__law_is_item [d] >>= tru) >>= (fun c => M.ret (!c)) = _
        rw [law_is_item_eq (f.mem d hd)]; rfl, fun _ => rfl⟩
    rw [List.map_id] at hn
    simp [runB, startE, sSeq, sIf, sRet, sSet, sPar, sNil, sDrop, eBin, eUn, eC, eVar, eAnd, eOr, eNot, notD, eF, eCL, L1, L1N, nCL, aCons, aNil, eTup, nLst, eN, tV, tTru, asB, tru, tOrM, tAndM, tNotM, eIf, eSl, pSome, pNo, nUn, M.ret_bind, List.map_cons, List.map_nil, List.length_cons, List.length_nil, List.replicate, List.cons_append, List.nil_append, List.getElem?_cons_zero, List.getElem?_cons_succ, List.set_cons_zero, List.set_cons_succ, isi_ti, hn, lst_nil_eq _ (sh_filter (fit_lst f)), filter_empty, pageB, tupB, itms]
  | obj _ => cases o
  | scr _ => cases o
  | _ => rfl
/-! ## sets of numbers -/
def ascI (ns : List Int) : Bool := (ns.zip (ns.drop 1)).all fun p => decide (p.1 < p.2)
theorem ascI_iff : ∀ ns : List Int, ascI ns = true ↔ ns.Pairwise (· < ·)
  | [] => by simp [ascI]
  | [a] => by simp [ascI]
  | a :: b :: r => by
    have ih := ascI_iff (b :: r)
    have e : ascI (a :: b :: r) = (decide (a < b) && ascI (b :: r)) := rfl
    rw [e, Bool.and_eq_true, ih, decide_eq_true_eq, List.pairwise_cons (a := a)]
    constructor
    · rintro ⟨h1, h2⟩
      refine ⟨fun x hx => ?_, h2⟩
      rcases List.mem_cons.mp hx with e | e
      · subst e; exact h1
      · exact Int.lt_trans h1 ((List.pairwise_cons.mp h2).1 x e)
    · rintro ⟨h1, h2⟩
      exact ⟨h1 b List.mem_cons_self, h2⟩
def intsB (xs : List D) : List Int := xs.filterMap fun d => match d with
  | .int i => some i
  | _ => none
def gapsB (d : D) : Bool := tupB d && ((itms d).all numB && ascI (intsB (itms d)))
theorem num_ints : ∀ {xs : List D}, xs.all numB = true → xs = (intsB xs).map D.int
  | [], _ => rfl
  | x :: xs, h => by
    rw [List.all_cons, Bool.and_eq_true] at h
    cases x with
    | int i =>
      have := num_ints h.2
      show D.int i :: xs = D.int i :: (intsB xs).map D.int
      rw [← this]
    | _ => exact absurd h.1 (by simp [numB])
theorem zip_asc (ns : List Int) : (zipD (ns.map D.int) ((ns.drop 1).map D.int)).map (fun d => match d with | .tup [.int a, .int b] => D.bl (decide (a < b)) | _ => .non) = ((ns.zip (ns.drop 1)).map fun p => D.bl (decide (p.1 < p.2))) := by
  unfold zipD
  rw [List.zip_map, List.map_map, List.map_map]
  rfl
theorem slt (xs : List D) : sliceM (some 1) none (.tup xs) = .ret (.tup (xs.drop 1)) := by
  cases xs with
  | nil => rfl
  | cons a r => rw [sl1]; rfl
theorem is_gaps_eq {d : D} (ho : d.ob = false) (hm : ∀ x ∈ itms d, x.ob = false) (hl : (itms d).length ≤ 1000) : M_is_gaps [d] = .ret (.bl (gapsB d)) := by
  unfold M_is_gaps b_is_gaps
  cases d with
  | tup xs =>
    have hl : xs.length ≤ 1000 := hl
    have hn : nComp [1] (iAny (eVar 0)) (gN 1) tYesM (eF 1 M_is_number (aCons (eVar 1) aNil)) [.v (.tup xs), .no, .no] = .ret (xs.map fun d => .bl (numB d)) :=
      nComp_map _ rfl (sz1000 hl) fun d hd => ⟨_, rfl, is_number_eq (hm d hd)⟩
    cases q : xs.all numB with
    | false => simp [runB, startE, sSeq, sIf, sRet, sSet, sPar, sNil, sDrop, eBin, eUn, eC, eVar, eAnd, eOr, eNot, notD, eF, eCL, L1, L1N, nCL, aCons, aNil, eTup, nLst, eN, tV, tTru, asB, tru, tOrM, tAndM, tNotM, eIf, eSl, pSome, pNo, nUn, M.ret_bind, List.map_cons, List.map_nil, List.length_cons, List.length_nil, List.replicate, List.cons_append, List.nil_append, List.getElem?_cons_zero, List.getElem?_cons_succ, List.set_cons_zero, List.set_cons_succ, isi_ti, hn, all_l, q, gapsB, tupB, itms]
    | true =>
      have hx := num_ints q
      generalize hns : intsB xs = ns at hx
      subst hx
      have hz : nComp [1, 2] (iZipM (aCons (eVar 0) (aCons (eSl (eVar 0) (pSome (eC (.int 1))) pNo) aNil))) (gTn 2 (gAll1 (gN 1) (gAll1 (gN 2) gAll0))) tYesM (eBin ltM (eVar 1) (eVar 2)) [.v (.tup (ns.map D.int)), .no, .no]
          = .ret ((ns.zip (ns.drop 1)).map fun p => D.bl (decide (p.1 < p.2))) := by
        rw [← zip_asc]
        refine nComp_map _ ?_ ?_ fun d hd => ?_
        · simp only [runB, startE, sSeq, sIf, sRet, sSet, sPar, sNil, sDrop, eBin, eUn, eC, eVar, eAnd, eOr, eNot, notD, eF, eCL, L1, L1N, nCL, aCons, aNil, eTup, nLst, eN, tV, tTru, asB, tru, tOrM, tAndM, tNotM, eIf, eSl, pSome, pNo, nUn, M.ret_bind, List.map_cons, List.map_nil, List.length_cons, List.length_nil, List.replicate, List.cons_append, List.nil_append, List.getElem?_cons_zero, List.getElem?_cons_succ, List.set_cons_zero, List.set_cons_succ, iZipM, slt, List.map_drop]; rfl
        · unfold zipD; rw [List.length_map, List.length_zip, List.length_map]
          rw [List.length_map] at hl
          exact sz1000 (by omega)
        · unfold zipD at hd
          obtain ⟨p, hp, rfl⟩ := List.mem_map.mp hd
          rw [List.zip_map] at hp
          obtain ⟨q, _, rfl⟩ := List.mem_map.mp hp
          exact ⟨_, rfl, rfl⟩
      have hall : allM (.lst ((ns.zip (ns.drop 1)).map fun p => D.bl (decide (p.1 < p.2)))) = .ret (.bl (ascI ns)) := by
        unfold allM
        have : ((ns.zip (ns.drop 1)).map fun p => D.bl (decide (p.1 < p.2))) = ((ns.zip (ns.drop 1)).map fun p => decide (p.1 < p.2)).map D.bl := by rw [List.map_map]; rfl
        rw [this]
        simp only [blsOf_bl]
        unfold ascI
        rw [List.all_map]; rfl
      simp [runB, startE, sSeq, sIf, sRet, sSet, sPar, sNil, sDrop, eBin, eUn, eC, eVar, eAnd, eOr, eNot, notD, eF, eCL, L1, L1N, nCL, aCons, aNil, eTup, nLst, eN, tV, tTru, asB, tru, tOrM, tAndM, tNotM, eIf, eSl, pSome, pNo, nUn, M.ret_bind, List.map_cons, List.map_nil, List.length_cons, List.length_nil, List.replicate, List.cons_append, List.nil_append, List.getElem?_cons_zero, List.getElem?_cons_succ, List.set_cons_zero, List.set_cons_succ, isi_ti, hn, all_l, q, gapsB, tupB, itms, hz, hall, hns, -List.map_map, -List.drop_one]
  | obj _ => cases ho
  | scr _ => cases ho
  | _ => rfl
theorem eqvL_ints : ∀ ns ms : List Int, D.eqvL (ns.map D.int) (ms.map D.int) = (ns == ms)
  | [], [] => rfl
  | [], _ :: _ => rfl
  | _ :: _, [] => rfl
  | a :: ns, b :: ms => by
    show ((a == b) && D.eqvL (ns.map D.int) (ms.map D.int)) = (a :: ns == b :: ms)
    rw [eqvL_ints ns ms]; rfl
theorem set_asc (ns : List Int) : (ns == srtI ns.eraseDups) = ascI ns := by
  obtain ⟨h1, h2⟩ := dd_nodup _ ns (Nat.le_refl _)
  rw [Bool.eq_iff_iff, ascI_iff, beq_iff_eq]
  constructor
  · intro e
    have hn : ns.Nodup := by rw [e]; exact (srt_perm _).nodup_iff.mpr h1
    have hs : ns.Pairwise (· ≤ ·) := by rw [e]; exact srt_sorted _
    exact (hs.and hn).imp fun ⟨h, k⟩ => by omega
  · intro hp
    exact srt_uniq hp (srt_sorted _) ((srt_perm _).nodup_iff.mpr h1) fun x => by rw [(srt_perm _).mem_iff, h2]
theorem fit_num {ns : List Int} (f : Fit (.tup (ns.map D.int))) (q : (ns.map D.int).all numB = true) : ns.length < 64 := by
  have h := f.ok
  simp only [D.ok, Bool.and_eq_true, q, Bool.not_true, Bool.false_or, decide_eq_true_eq, List.length_map] at h
  exact h.1.2
theorem law_is_set_eq {d : D} (f : Fit d) : M__law_is_set [d] = .ret (.bl (gapsB d)) := by
  have o := f.ob
  unfold M__law_is_set b__law_is_set
  cases d with
  | tup xs =>
    have hn : nComp [1] (iAny (eVar 0)) (gN 1) (tNotM (tTru (eF 1 M__law_is_number (aCons (eVar 1) aNil)))) (eVar 1) [.v (.tup xs), .no] = .ret ((xs.filter fun d => !numB d).map id) :=
      nComp_pure _ _ rfl (sz1000 f.len) fun d hd => ⟨_, rfl, by
        show (M__law_is_number [d] >>= tru) >>= (fun c => M.ret (!c)) = _
        rw [law_is_number_eq (f.mem d hd).ob]; rfl, fun _ => rfl⟩
    rw [List.map_id] at hn
    have hne := lst_nil_ne _ (sh_filter (p := fun d => !numB d) (fit_lst f))
    rw [filter_empty] at hne
    cases q : xs.all numB with
    | false =>
      rw [q] at hne
      simp [runB, startE, sSeq, sIf, sRet, sSet, sPar, sNil, sDrop, eBin, eUn, eC, eVar, eAnd, eOr, eNot, notD, eF, eCL, L1, L1N, nCL, aCons, aNil, eTup, nLst, eN, tV, tTru, asB, tru, tOrM, tAndM, tNotM, eIf, eSl, pSome, pNo, nUn, M.ret_bind, List.map_cons, List.map_nil, List.length_cons, List.length_nil, List.replicate, List.cons_append, List.nil_append, List.getElem?_cons_zero, List.getElem?_cons_succ, List.set_cons_zero, List.set_cons_succ, isi_ti, hn, hne, q, gapsB, tupB, itms]
    | true =>
      rw [q] at hne
      have hx := num_ints q
      generalize hns : intsB xs = ns at hx
      subst hx
      have h64 := fit_num f q
      have hs : sSetN (.tup (ns.map D.int)) = .ret ((srtI ns.eraseDups).map D.int) := by
        unfold sSetN
        simp only [intsOf_int]
        rw [if_pos h64]
      have he : eqM (.lst (ns.map D.int)) (.lst ((srtI ns.eraseDups).map D.int)) = .ret (.bl (ascI ns)) := by
        unfold eqM
        rw [if_pos (by rw [sh_ints, sh_ints]; simp)]
        show M.ret (D.bl (D.eqvL _ _)) = _
        rw [eqvL_ints, set_asc]
      simp [runB, startE, sSeq, sIf, sRet, sSet, sPar, sNil, sDrop, eBin, eUn, eC, eVar, eAnd, eOr, eNot, notD, eF, eCL, L1, L1N, nCL, aCons, aNil, eTup, nLst, eN, tV, tTru, asB, tru, tOrM, tAndM, tNotM, eIf, eSl, pSome, pNo, nUn, M.ret_bind, List.map_cons, List.map_nil, List.length_cons, List.length_nil, List.replicate, List.cons_append, List.nil_append, List.getElem?_cons_zero, List.getElem?_cons_succ, List.set_cons_zero, List.set_cons_succ, isi_ti, hn, hne, q, gapsB, tupB, itms, listN, hs, he, hns, -List.map_map]
  | obj _ => cases o
  | scr _ => cases o
  | _ => rfl
end G
namespace G
open PySem PySem.Spec PyProof.Rows L2 F
/-! ## complaints -/
def wds : List Str := ["use", "unused", "twice", "stop", "give", "after", "falls", "open", "end"]
def signB : D → Bool
  | .tup [a, b] => numB a && (isS b && wds.any fun z => strB z b)
  | _ => false
theorem in_sl {d : D} {ys : List Str} (h : d.sh = true) (hy : ys.all PyData.strOk = true) : inM false d (.lst (ys.map D.str)) = .ret (.bl (ys.any fun z => strB z d)) := by
  have q := in_s h hy
  have key : ∀ ys : List Str, ys.all PyData.strOk = true → D.plL (ys.map D.str) = true ∧ D.depL (ys.map D.str) = 0 ∧ inL d (ys.map D.str) = ys.any fun z => strB z d := by
    intro ys
    induction ys with
    | nil => intro _; exact ⟨rfl, rfl, rfl⟩
    | cons y ys ih =>
      intro hy
      rw [List.all_cons, Bool.and_eq_true] at hy
      obtain ⟨h1, h2, h3⟩ := ih hy.2
      refine ⟨by simp [D.plL, D.pl, hy.1, h1], by simp [D.depL, D.dep, h2], ?_⟩
      unfold inL at h3 ⊢
      rw [List.map_cons, List.any_cons, List.any_cons, h3, eqv_str']
  obtain ⟨h1, h2, h3⟩ := key ys hy
  have hs : D.sh (.lst (ys.map D.str)) = true := sh_lst.mpr ⟨h1, by omega⟩
  have hc : ((d.flat && (ys.map D.str).all D.flat) || (d.sh && D.sh (.lst (ys.map D.str)))) = true := by rw [h, hs]; simp
  cases d with
  | str s => show (if _ then _ else _) = _; rw [if_pos hc, h3, Bool.false_xor]
  | non => show (if _ then _ else _) = _; rw [if_pos hc, h3, Bool.false_xor]
  | bl _ => show (if _ then _ else _) = _; rw [if_pos hc, h3, Bool.false_xor]
  | int _ => show (if _ then _ else _) = _; rw [if_pos hc, h3, Bool.false_xor]
  | tup _ => show (if _ then _ else _) = _; rw [if_pos hc, h3, Bool.false_xor]
  | lst _ => show (if _ then _ else _) = _; rw [if_pos hc, h3, Bool.false_xor]
  | dic _ => simp [D.sh, D.pl] at h
  | obj _ => simp [D.sh, D.pl] at h
  | scr _ => simp [D.sh, D.pl] at h
theorem is_complaint_eq {d : D} (f : Fit d) : M_is_complaint [d] = .ret (.bl (signB d)) := by
  have o := f.ob
  have hp := is_pair_eq o
  unfold M_is_complaint b_is_complaint
  cases d with
  | obj _ => cases o
  | scr _ => cases o
  | tup xs =>
    match xs, f with
    | [], f => rfl
    | [_], f => rfl
    | [a, b], f =>
      have fa := f.mem a (by simp)
      have fb := f.mem b (by simp)
      have hi : inM false b (.tup [.str "use", .str "unused", .str "twice", .str "stop", .str "give", .str "after", .str "falls", .str "open", .str "end"]) = .ret (.bl (wds.any fun z => strB z b)) := in_s (ys := wds) fb.sh (by decide +kernel)
      cases q : numB a <;> cases q2 : isS b <;> simp [runB, startE, sSeq, sIf, sRet, sSet, sPar, sNil, sDrop, eBin, eUn, eC, eVar, eAnd, eOr, eNot, notD, eF, eCL, L1, L1N, nCL, aCons, aNil, eTup, nLst, eN, tV, tTru, asB, tru, tOrM, tAndM, tNotM, eIf, eSl, pSome, pNo, nUn, M.ret_bind, List.map_cons, List.map_nil, List.length_cons, List.length_nil, List.replicate, List.cons_append, List.nil_append, List.getElem?_cons_zero, List.getElem?_cons_succ, List.set_cons_zero, List.set_cons_succ, hp, twoB, is_number_eq fa.ob, ix0, ix1, isi_s' fb.ob, hi, signB, q, q2]
    | a :: b :: c :: r, f => simp [runB, startE, sSeq, sIf, sRet, sSet, sPar, sNil, sDrop, eBin, eUn, eC, eVar, eAnd, eOr, eNot, notD, eF, eCL, L1, L1N, nCL, aCons, aNil, eTup, nLst, eN, tV, tTru, asB, tru, tOrM, tAndM, tNotM, eIf, eSl, pSome, pNo, nUn, M.ret_bind, List.map_cons, List.map_nil, List.length_cons, List.length_nil, List.replicate, List.cons_append, List.nil_append, List.getElem?_cons_zero, List.getElem?_cons_succ, List.set_cons_zero, List.set_cons_succ, hp, twoB, signB]
  | _ => rfl
theorem law_is_sign_eq {d : D} (f : Fit d) : M__law_is_sign [d] = .ret (.bl (signB d)) := by
  have o := f.ob
  unfold M__law_is_sign b__law_is_sign
  cases d with
  | obj _ => cases o
  | scr _ => cases o
  | tup xs =>
    match xs, f with
    | [], f => rfl
    | [_], f => rfl
    | [a, b], f =>
      have fa := f.mem a (by simp)
      have fb := f.mem b (by simp)
      have l2 : lenM (.tup [a, b]) = .ret (.int 2) := rfl
      have hi : inM false b (.lst [.str "use", .str "unused", .str "twice", .str "stop", .str "give", .str "after", .str "falls", .str "open", .str "end"]) = .ret (.bl (wds.any fun z => strB z b)) := in_sl (ys := wds) fb.sh (by decide +kernel)
      have z9 : (9 : Nat) ≤ sizeLine := by decide
      cases q : numB a <;> cases q2 : isS b <;> simp [runB, startE, sSeq, sIf, sRet, sSet, sPar, sNil, sDrop, eBin, eUn, eC, eVar, eAnd, eOr, eNot, notD, eF, eCL, L1, L1N, nCL, aCons, aNil, eTup, nLst, eN, tV, tTru, asB, tru, tOrM, tAndM, tNotM, eIf, eSl, pSome, pNo, nUn, M.ret_bind, List.map_cons, List.map_nil, List.length_cons, List.length_nil, List.replicate, List.cons_append, List.nil_append, List.getElem?_cons_zero, List.getElem?_cons_succ, List.set_cons_zero, List.set_cons_succ, isi_ti, l2, ne_i, law_is_number_eq fa.ob, ix0, ix1, isi_s' fb.ob, hi, signB, q, q2, z9]
    | a :: b :: c :: r, f =>
      obtain ⟨n, ln, hn⟩ := long (a := a) (b := b) (c := c) r
      have g2 : neM (.int n) (.int 2) = .ret (.bl true) := ne_yes (by omega)
      simp [runB, startE, sSeq, sIf, sRet, sSet, sPar, sNil, sDrop, eBin, eUn, eC, eVar, eAnd, eOr, eNot, notD, eF, eCL, L1, L1N, nCL, aCons, aNil, eTup, nLst, eN, tV, tTru, asB, tru, tOrM, tAndM, tNotM, eIf, eSl, pSome, pNo, nUn, M.ret_bind, List.map_cons, List.map_nil, List.length_cons, List.length_nil, List.replicate, List.cons_append, List.nil_append, List.getElem?_cons_zero, List.getElem?_cons_succ, List.set_cons_zero, List.set_cons_succ, isi_ti, ln, g2, signB]
  | _ => rfl
/-! ## ways -/
def fstD : D → D
  | .tup (a :: _) => a
  | _ => .non
def sndD : D → D
  | .tup [_, b] => b
  | _ => .non
def fullB (d : D) : Bool := pageB d && !(itms d).isEmpty
def wayB (d : D) : Bool := tupB d && ((itms d).all twoB && ((itms d).all (fun x => fullB (sndD x)) && gapsB (.tup ((itms d).map fstD))))
theorem two_of {x : D} (h : twoB x = true) : ∃ a b, x = .tup [a, b] := by
  cases x with
  | tup xs =>
    match xs, h with
    | [a, b], _ => exact ⟨a, b, rfl⟩
  | _ => cases h
theorem gt_len (xs : List D) : gtM (.int xs.length) (.int 0) = .ret (.bl (!xs.isEmpty)) := by
  rw [gt_i]
  cases xs with
  | nil => rfl
  | cons a r =>
    have : decide ((0 : Int) < ((a :: r).length : Int)) = true := decide_eq_true (by simp only [List.length_cons]; omega)
    rw [this]; rfl
theorem page_tup {d : D} (h : pageB d = true) : ∃ xs, d = .tup xs := by
  cases d with
  | tup xs => exact ⟨xs, rfl⟩
  | _ => simp [pageB, tupB] at h
theorem is_way_eq {d : D} (f : Fit d) : M_is_way [d] = .ret (.bl (wayB d)) := by
  have o := f.ob
  unfold M_is_way b_is_way
  cases d with
  | obj _ => cases o
  | scr _ => cases o
  | tup xs =>
    have hl := sz1000 f.len
    have hn : nComp [3] (iAny (eVar 0)) (gN 3) tYesM (eF 1 M_is_pair (aCons (eVar 3) aNil)) [.v (.tup xs), .no, .no, .no] = .ret (xs.map fun d => .bl (twoB d)) :=
      nComp_map _ rfl hl fun d hd => ⟨_, rfl, is_pair_eq (f.mem d hd).ob⟩
    cases q : xs.all twoB with
    | false => simp [runB, startE, sSeq, sIf, sRet, sSet, sPar, sNil, sDrop, eBin, eUn, eC, eVar, eAnd, eOr, eNot, notD, eF, eCL, L1, L1N, nCL, aCons, aNil, eTup, nLst, eN, tV, tTru, asB, tru, tOrM, tAndM, tNotM, eIf, eSl, pSome, pNo, nUn, M.ret_bind, List.map_cons, List.map_nil, List.length_cons, List.length_nil, List.replicate, List.cons_append, List.nil_append, List.getElem?_cons_zero, List.getElem?_cons_succ, List.set_cons_zero, List.set_cons_succ, isi_ti, hn, all_l, q, wayB, tupB, itms]
    | true =>
      have htwo : ∀ x ∈ xs, ∃ a b, x = .tup [a, b] := fun x hx => two_of (List.all_eq_true.mp q x hx)
      have hm : nComp [1, 2] (iAny (eVar 0)) (gTn 2 (gAll1 (gN 1) (gAll1 (gN 2) gAll0))) tYesM (eAnd (eF 1 M_is_text (aCons (eVar 2) aNil)) (eBin gtM (eCL (L1 lenM) (aCons (eVar 2) aNil)) (eC (.int 0)))) [.v (.tup xs), .no, .no, .no] = .ret (xs.map fun d => .bl (fullB (sndD d))) := by
        refine nComp_map _ rfl hl fun x hx => ?_
        obtain ⟨a, b, rfl⟩ := htwo x hx
        have fb := (f.mem _ hx).mem b (by simp)
        refine ⟨_, rfl, ?_⟩
        have ht := is_text_eq fb
        cases hp : pageB b with
        | false =>
          rw [hp] at ht
          simp [runB, startE, sSeq, sIf, sRet, sSet, sPar, sNil, sDrop, eBin, eUn, eC, eVar, eAnd, eOr, eNot, notD, eF, eCL, L1, L1N, nCL, aCons, aNil, eTup, nLst, eN, tV, tTru, asB, tru, tOrM, tAndM, tNotM, eIf, eSl, pSome, pNo, nUn, M.ret_bind, List.map_cons, List.map_nil, List.length_cons, List.length_nil, List.replicate, List.cons_append, List.nil_append, List.getElem?_cons_zero, List.getElem?_cons_succ, List.set_cons_zero, List.set_cons_succ, wipeE, ht, fullB, sndD, hp]
        | true =>
          rw [hp] at ht
          obtain ⟨ys, rfl⟩ := page_tup hp
          simp [runB, startE, sSeq, sIf, sRet, sSet, sPar, sNil, sDrop, eBin, eUn, eC, eVar, eAnd, eOr, eNot, notD, eF, eCL, L1, L1N, nCL, aCons, aNil, eTup, nLst, eN, tV, tTru, asB, tru, tOrM, tAndM, tNotM, eIf, eSl, pSome, pNo, nUn, M.ret_bind, List.map_cons, List.map_nil, List.length_cons, List.length_nil, List.replicate, List.cons_append, List.nil_append, List.getElem?_cons_zero, List.getElem?_cons_succ, List.set_cons_zero, List.set_cons_succ, wipeE, ht, fullB, sndD, hp, len_t, gt_len, itms]
      have hg : nComp [1, 2] (iAny (eVar 0)) (gTn 2 (gAll1 (gN 1) (gAll1 (gN 2) gAll0))) tYesM (eVar 1) [.v (.tup xs), .no, .no, .no] = .ret (xs.map fstD) := by
        refine nComp_map _ rfl hl fun x hx => ?_
        obtain ⟨a, b, rfl⟩ := htwo x hx
        exact ⟨_, rfl, rfl⟩
      have hG : M_is_gaps [.tup (xs.map fstD)] = .ret (.bl (gapsB (.tup (xs.map fstD)))) := is_gaps_eq rfl (fun y hy => by
        obtain ⟨x, hx, rfl⟩ := List.mem_map.mp hy
        obtain ⟨a, b, rfl⟩ := htwo x hx
        exact ((f.mem _ hx).mem a (by simp)).ob) (by show (xs.map fstD).length ≤ 1000; rw [List.length_map]; exact f.len)
      cases q2 : xs.all (fun x => fullB (sndD x)) with
      | false => simp [runB, startE, sSeq, sIf, sRet, sSet, sPar, sNil, sDrop, eBin, eUn, eC, eVar, eAnd, eOr, eNot, notD, eF, eCL, L1, L1N, nCL, aCons, aNil, eTup, nLst, eN, tV, tTru, asB, tru, tOrM, tAndM, tNotM, eIf, eSl, pSome, pNo, nUn, M.ret_bind, List.map_cons, List.map_nil, List.length_cons, List.length_nil, List.replicate, List.cons_append, List.nil_append, List.getElem?_cons_zero, List.getElem?_cons_succ, List.set_cons_zero, List.set_cons_succ, isi_ti, hn, hm, all_l, q, q2, wayB, tupB, itms]
      | true => simp [runB, startE, sSeq, sIf, sRet, sSet, sPar, sNil, sDrop, eBin, eUn, eC, eVar, eAnd, eOr, eNot, notD, eF, eCL, L1, L1N, nCL, aCons, aNil, eTup, nLst, eN, tV, tTru, asB, tru, tOrM, tAndM, tNotM, eIf, eSl, pSome, pNo, nUn, M.ret_bind, List.map_cons, List.map_nil, List.length_cons, List.length_nil, List.replicate, List.cons_append, List.nil_append, List.getElem?_cons_zero, List.getElem?_cons_succ, List.set_cons_zero, List.set_cons_succ, isi_ti, hn, hm, hg, hG, all_l, q, q2, wayB, tupB, itms, tupleM]
  | _ => rfl
end G
namespace G
open PySem PySem.Spec PyProof.Rows L2 F
def putL (b : Int) : List D → Bool
  | [] => true
  | x :: r => match x with
    | .tup [.int g, p] => decide (0 ≤ g) && (decide (b < g) && (fullB p && putL g r))
    | _ => false
theorem putL_eq : ∀ (xs : List D) (b : Int), putL b xs = (xs.all twoB && (xs.all (fun x => fullB (sndD x)) && ((xs.map fstD).all numB && ascI (b :: intsB (xs.map fstD)))))
  | [], b => rfl
  | x :: r, b => by
    have no : ∀ y : D, twoB y = false → putL b (y :: r) = false → putL b (y :: r) = ((y :: r).all twoB && ((y :: r).all (fun x => fullB (sndD x)) && (((y :: r).map fstD).all numB && ascI (b :: intsB ((y :: r).map fstD))))) := fun y h1 h2 => by
      rw [h2, List.all_cons, h1]; rfl
    cases x with
    | tup ys =>
      match ys with
      | [] => exact no _ rfl rfl
      | [a] => exact no _ rfl (by cases a <;> rfl)
      | [a, p] =>
        cases a with
        | int g =>
          have ih := putL_eq r g
          have e : putL b (.tup [.int g, p] :: r) = (decide (0 ≤ g) && (decide (b < g) && (fullB p && putL g r))) := rfl
          have e2 : ascI (b :: intsB ((.tup [.int g, p] :: r).map fstD)) = (decide (b < g) && ascI (g :: intsB (r.map fstD))) := rfl
          rw [e, e2, ih]
          simp only [List.all_cons, List.map_cons, twoB, sndD, fstD, numB, Bool.true_and]
          cases decide (0 ≤ g) <;> cases decide (b < g) <;> cases fullB p <;> cases r.all twoB <;> simp
        | _ => simp [putL, fstD, numB]
      | _ :: _ :: _ :: _ =>
        rename_i a _ _ _
        refine no _ rfl ?_
        cases a <;> rfl
    | _ => exact no _ rfl rfl
theorem asc_neg {ns : List D} (h : ns.all numB = true) : ascI (-1 :: intsB ns) = ascI (intsB ns) := by
  cases ns with
  | nil => rfl
  | cons x r =>
    rw [List.all_cons, Bool.and_eq_true] at h
    cases x with
    | int g =>
      have hg : 0 ≤ g := by simpa [numB] using h.1
      show (decide ((-1 : Int) < g) && ascI (g :: intsB r)) = ascI (g :: intsB r)
      rw [decide_eq_true (by omega : (-1 : Int) < g)]; rfl
    | _ => exact absurd h.1 (by simp [numB])
theorem putL_way (xs : List D) : putL (-1) xs = wayB (.tup xs) := by
  rw [putL_eq]
  have : wayB (.tup xs) = (xs.all twoB && (xs.all (fun x => fullB (sndD x)) && ((xs.map fstD).all numB && ascI (intsB (xs.map fstD))))) := rfl
  rw [this]
  cases h : (xs.map fstD).all numB with
  | false => simp
  | true => rw [asc_neg h]
def putBody : SM := sSeq (sIf (tOrM (tNotM (tTru (eUn (isiM "tuple") (eVar 2)))) (tOrM (tV (eBin neM (eCL (L1 lenM) (aCons (eVar 2) aNil)) (eC (.int 2)))) (tOrM (tNotM (tTru (eF 1 M__law_is_number (aCons (eBin idxM (eVar 2) (eC (.int 0))) aNil)))) (tV (eBin leM (eBin idxM (eVar 2) (eC (.int 0))) (eVar 1)))))) (sRet (eC (.bl false))) sNil) (sSeq (sIf (tOrM (tNotM (tTru (eF 1 M__law_is_page (aCons (eBin idxM (eVar 2) (eC (.int 1))) aNil)))) (tV (eBin eqM (eCL (L1 lenM) (aCons (eBin idxM (eVar 2) (eC (.int 1))) aNil)) (eC (.int 0))))) (sRet (eC (.bl false))) sNil) (sSet 1 (eBin idxM (eVar 2) (eC (.int 0)))))
theorem eq_len0 (xs : List D) : eqM (.int xs.length) (.int 0) = .ret (.bl xs.isEmpty) := by
  cases xs with
  | nil => rfl
  | cons a r => exact eq_no (by simp only [List.length_cons]; omega)
def putX (b : Int) (x : D) : Option Int := match x with
  | .tup [.int g, p] => if (decide (0 ≤ g) && (decide (b < g) && fullB p)) = true then some g else none
  | _ => none
theorem put_body (T : D) (b : Int) (x : D) (f : Fit x) : putBody [.v T, .v (.int b), .v x] = .ret (match putX b x with | some g => .nx [.v T, .v (.int g), .v x] | none => .rt (.bl false)) := by
  have o := f.ob
  unfold putBody
  cases x with
  | obj _ => cases o
  | scr _ => cases o
  | tup xs =>
    match xs, f with
    | [], f => rfl
    | [a], f =>
      have e : putX b (.tup [a]) = none := by cases a <;> rfl
      have l1 : lenM (.tup [a]) = .ret (.int 1) := rfl
      simp [runB, startE, sSeq, sIf, sRet, sSet, sPar, sNil, sDrop, eBin, eUn, eC, eVar, eAnd, eOr, eNot, notD, eF, eCL, L1, L1N, nCL, aCons, aNil, eTup, nLst, eN, tV, tTru, asB, tru, tOrM, tAndM, tNotM, eIf, eSl, pSome, pNo, nUn, M.ret_bind, List.map_cons, List.map_nil, List.length_cons, List.length_nil, List.replicate, List.cons_append, List.nil_append, List.getElem?_cons_zero, List.getElem?_cons_succ, List.set_cons_zero, List.set_cons_succ, isi_ti, l1, ne_i, e]
    | [a, p], f =>
      have fa := f.mem a (by simp)
      have fp := f.mem p (by simp)
      have l2 : lenM (.tup [a, p]) = .ret (.int 2) := rfl
      have hp := law_is_page_eq fp
      cases a with
      | int g =>
        have hn := law_is_number_eq fa.ob
        cases q : decide (0 ≤ g) with
        | false => simp [runB, startE, sSeq, sIf, sRet, sSet, sPar, sNil, sDrop, eBin, eUn, eC, eVar, eAnd, eOr, eNot, notD, eF, eCL, L1, L1N, nCL, aCons, aNil, eTup, nLst, eN, tV, tTru, asB, tru, tOrM, tAndM, tNotM, eIf, eSl, pSome, pNo, nUn, M.ret_bind, List.map_cons, List.map_nil, List.length_cons, List.length_nil, List.replicate, List.cons_append, List.nil_append, List.getElem?_cons_zero, List.getElem?_cons_succ, List.set_cons_zero, List.set_cons_succ, isi_ti, l2, ne_i, ix0, hn, numB, q, putX]
        | true =>
          by_cases q2 : g ≤ b
          · have q3 : decide (b < g) = false := decide_eq_false (by omega)
            simp [runB, startE, sSeq, sIf, sRet, sSet, sPar, sNil, sDrop, eBin, eUn, eC, eVar, eAnd, eOr, eNot, notD, eF, eCL, L1, L1N, nCL, aCons, aNil, eTup, nLst, eN, tV, tTru, asB, tru, tOrM, tAndM, tNotM, eIf, eSl, pSome, pNo, nUn, M.ret_bind, List.map_cons, List.map_nil, List.length_cons, List.length_nil, List.replicate, List.cons_append, List.nil_append, List.getElem?_cons_zero, List.getElem?_cons_succ, List.set_cons_zero, List.set_cons_succ, isi_ti, l2, ne_i, ix0, hn, numB, q, putX, le_i, q2, q3]
          · have q3 : decide (b < g) = true := decide_eq_true (by omega)
            cases q4 : pageB p with
            | false =>
              rw [q4] at hp
              simp [runB, startE, sSeq, sIf, sRet, sSet, sPar, sNil, sDrop, eBin, eUn, eC, eVar, eAnd, eOr, eNot, notD, eF, eCL, L1, L1N, nCL, aCons, aNil, eTup, nLst, eN, tV, tTru, asB, tru, tOrM, tAndM, tNotM, eIf, eSl, pSome, pNo, nUn, M.ret_bind, List.map_cons, List.map_nil, List.length_cons, List.length_nil, List.replicate, List.cons_append, List.nil_append, List.getElem?_cons_zero, List.getElem?_cons_succ, List.set_cons_zero, List.set_cons_succ, isi_ti, l2, ne_i, ix0, ix1, hn, numB, q, putX, le_i, q2, q3, hp, fullB, q4]
            | true =>
              rw [q4] at hp
              obtain ⟨ys, rfl⟩ := page_tup q4
              cases q5 : ys.isEmpty <;> simp [runB, startE, sSeq, sIf, sRet, sSet, sPar, sNil, sDrop, eBin, eUn, eC, eVar, eAnd, eOr, eNot, notD, eF, eCL, L1, L1N, nCL, aCons, aNil, eTup, nLst, eN, tV, tTru, asB, tru, tOrM, tAndM, tNotM, eIf, eSl, pSome, pNo, nUn, M.ret_bind, List.map_cons, List.map_nil, List.length_cons, List.length_nil, List.replicate, List.cons_append, List.nil_append, List.getElem?_cons_zero, List.getElem?_cons_succ, List.set_cons_zero, List.set_cons_succ, isi_ti, l2, ne_i, ix0, ix1, hn, numB, q, putX, le_i, q2, q3, hp, fullB, q4, len_t, eq_len0, itms, q5, -List.isEmpty_iff]
      | _ =>
        have hn := law_is_number_eq fa.ob
        simp [runB, startE, sSeq, sIf, sRet, sSet, sPar, sNil, sDrop, eBin, eUn, eC, eVar, eAnd, eOr, eNot, notD, eF, eCL, L1, L1N, nCL, aCons, aNil, eTup, nLst, eN, tV, tTru, asB, tru, tOrM, tAndM, tNotM, eIf, eSl, pSome, pNo, nUn, M.ret_bind, List.map_cons, List.map_nil, List.length_cons, List.length_nil, List.replicate, List.cons_append, List.nil_append, List.getElem?_cons_zero, List.getElem?_cons_succ, List.set_cons_zero, List.set_cons_succ, isi_ti, l2, ne_i, ix0, hn, numB, putX]
    | a :: c :: e :: r, f =>
      obtain ⟨n, ln, hn⟩ := long (a := a) (b := c) (c := e) r
      have g2 : neM (.int n) (.int 2) = .ret (.bl true) := ne_yes (by omega)
      have ep : putX b (.tup (a :: c :: e :: r)) = none := by cases a <;> rfl
      simp [runB, startE, sSeq, sIf, sRet, sSet, sPar, sNil, sDrop, eBin, eUn, eC, eVar, eAnd, eOr, eNot, notD, eF, eCL, L1, L1N, nCL, aCons, aNil, eTup, nLst, eN, tV, tTru, asB, tru, tOrM, tAndM, tNotM, eIf, eSl, pSome, pNo, nUn, M.ret_bind, List.map_cons, List.map_nil, List.length_cons, List.length_nil, List.replicate, List.cons_append, List.nil_append, List.getElem?_cons_zero, List.getElem?_cons_succ, List.set_cons_zero, List.set_cons_succ, isi_ti, ln, g2, ep]
  | _ => rfl
theorem put_loop (T : D) : ∀ (xs : List D) (b : Int) (z : Sl), (∀ x ∈ xs, Fit x) → ∃ ρ', forM (gN 2) putBody xs [.v T, .v (.int b), z] = .ret (if putL b xs = true then .nx ρ' else .rt (.bl false))
  | [], b, z, _ => ⟨_, rfl⟩
  | x :: xs, b, z, h => by
    have hb := put_body T b x (h x List.mem_cons_self)
    have hx : forM (gN 2) putBody (x :: xs) [.v T, .v (.int b), z] = (putBody [.v T, .v (.int b), .v x] >>= fun c => match c with
      | .nx ρ2 => forM (gN 2) putBody xs ρ2
      | .ct ρ2 => forM (gN 2) putBody xs ρ2
      | .bk ρ2 => .ret (.nx ρ2)
      | .rt d => .ret (.rt d)) := rfl
    rw [hx, hb]
    have key : putL b (x :: xs) = (match putX b x with | some g => putL g xs | none => false) := by
      cases x with
      | tup ys =>
        match ys with
        | [] => rfl
        | [a] => cases a <;> rfl
        | [a, p] =>
          cases a with
          | int g =>
            show (decide (0 ≤ g) && (decide (b < g) && (fullB p && putL g xs))) = _
            have e : putX b (.tup [.int g, p]) = if (decide (0 ≤ g) && (decide (b < g) && fullB p)) = true then some g else none := rfl
            rw [e]
            cases decide (0 ≤ g) <;> cases decide (b < g) <;> cases fullB p <;> simp
          | _ => rfl
        | a :: _ :: _ :: _ => cases a <;> rfl
      | _ => rfl
    rw [key]
    cases q : putX b x with
    | none => exact ⟨[], rfl⟩
    | some g =>
      obtain ⟨ρ', e⟩ := put_loop T xs g (.v x) fun y hy => h y (List.mem_cons_of_mem _ hy)
      exact ⟨ρ', e⟩
theorem law_is_put_eq {d : D} (f : Fit d) : M__law_is_put [d] = .ret (.bl (wayB d)) := by
  have o := f.ob
  cases d with
  | obj _ => cases o
  | scr _ => cases o
  | tup xs =>
    obtain ⟨ρ', hl⟩ := put_loop (.tup xs) xs (-1) .no f.mem
    rw [putL_way] at hl
    have hn : negM (.int 1) = .ret (.int (-1)) := rfl
    have hb : b__law_is_put = sSeq (sIf (tNotM (tTru (eUn (isiM "tuple") (eVar 0)))) (sRet (eC (.bl false))) sNil) (sSeq (sSet 1 (eUn negM (eC (.int 1)))) (sSeq (sFor (iAny (eVar 0)) (gN 2) putBody) (sRet (eC (.bl true))))) := rfl
    unfold M__law_is_put
    rw [hb]
    simp only [runB, startE, sSeq, sIf, sRet, sSet, sPar, sNil, sDrop, eBin, eUn, eC, eVar, eAnd, eOr, eNot, notD, eF, eCL, L1, L1N, nCL, aCons, aNil, eTup, nLst, eN, tV, tTru, asB, tru, tOrM, tAndM, tNotM, eIf, eSl, pSome, pNo, nUn, M.ret_bind, List.map_cons, List.map_nil, List.length_cons, List.length_nil, List.replicate, List.cons_append, List.nil_append, List.getElem?_cons_zero, List.getElem?_cons_succ, List.set_cons_zero, List.set_cons_succ, isi_ti, Bool.not_true, hn, sFor, iAny, itM, hl]
    cases wayB (.tup xs) <;> rfl
  | _ => rfl
end G
namespace G
open PySem PySem.Spec PyProof.Rows L2 F
mutual
/-- at most so many signs when shown -/
def D.w : D → Nat
  | .non => 4
  | .bl _ => 5
  | .int _ => 64
  | .str x => 10 * x.length + 2
  | .tup xs => D.wL xs + 3
  | .lst xs => D.wL xs + 3
  | _ => 0
def D.wL : List D → Nat
  | [] => 0
  | x :: xs => D.w x + 2 + D.wL xs
end
theorem textFrom_le : ∀ (ts : List Str) (k : Nat) (acc : Str), (textFrom k acc ts).length ≤ acc.length + piled ts
  | [], k, acc => Nat.le_add_right _ _
  | t :: r, k, acc => by
    have ih := textFrom_le r (k + 1) (acc ++ (if k > 0 then ", " else "" : String) ++ t)
    have e : (acc ++ (if k > 0 then ", " else "" : String) ++ t).length ≤ acc.length + 2 + t.length := by
      rw [strLen_append, strLen_append]
      have e2 : ((if k > 0 then ", " else "" : String) : Str).length ≤ 2 := by split <;> decide
      omega
    rw [piled_cons]
    exact Nat.le_trans ih (by omega)
theorem listText_le (ts : List Str) : (listText ts).length ≤ piled ts + 3 := by
  unfold listText
  rw [strLen_append]
  have := textFrom_le ts 0 "["
  have e1 : (("[" : String) : Str).length = 1 := rfl
  have e2 : (("]" : String) : Str).length = 1 := rfl
  omega
theorem tupleText_le (ts : List Str) : (tupleText ts).length ≤ piled ts + 3 := by
  unfold tupleText
  rw [strLen_append, strLen_append]
  have e1 : (("(" : String) : Str).length = 1 := rfl
  have e2 : ((if ts.length == 1 then ",)" else ")" : String) : Str).length ≤ 2 := by split <;> decide
  by_cases h : ts = []
  · subst h
    have : (Str.join ", " ([] : List Str)).length = 0 := rfl
    omega
  · have := join_length_add ts h
    omega
mutual
theorem shown_le : ∀ (d : D) (p : PyData), D.ok d = true → d.py = some p → p.showable = true ∧ p.shown.length ≤ D.w d
  | .non, p, _, h => by cases h; exact ⟨rfl, by decide⟩
  | .bl b, p, _, h => by cases h; exact ⟨rfl, by cases b <;> decide⟩
  | .int i, p, ho, h => by
    cases h
    have hi : i.natAbs < 10 ^ 61 := by simpa [D.ok] using ho
    refine ⟨?_, ?_⟩
    · show decide (i.natAbs.log2 < 1920) = true
      refine decide_eq_true ?_
      by_cases h0 : i.natAbs = 0
      · rw [h0]; decide
      · exact Nat.lt_of_lt_of_le ((Nat.log2_lt h0 (k := 256)).mpr (Nat.lt_of_lt_of_le hi (by decide))) (by decide)
    · have := int_text_length_le10 (a := i) (k := 61) (by decide) hi
      have e : (Str.ofString (toString i)).length = (toString i).length := PySem.ofString_length _
      show (Str.ofString (toString i)).length ≤ 64
      rw [e]; omega
  | .str x, p, ho, h => by
    cases h
    simp only [D.ok, Bool.and_eq_true] at ho
    refine ⟨rfl, StrLaws.reprText_len x fun c hc => ?_⟩
    have := ho.1
    unfold PyData.strOk at this
    rw [← Array.all_toList, List.all_eq_true] at this
    have q := this c hc
    simp only [decide_eq_true_eq] at q
    exact Nat.lt_of_lt_of_le q (by decide)
  | .tup xs, p, ho, h => by
    obtain ⟨ps, e, rfl⟩ := D.py_tup h
    simp only [D.ok, Bool.and_eq_true] at ho
    obtain ⟨h1, h2⟩ := shownL_le xs ps ho.2 e
    exact ⟨h1, Nat.le_trans (tupleText_le _) (Nat.add_le_add_right h2 3)⟩
  | .lst xs, p, ho, h => by
    obtain ⟨ps, e, rfl⟩ := D.py_lst h
    simp only [D.ok, Bool.and_eq_true] at ho
    obtain ⟨h1, h2⟩ := shownL_le xs ps ho.2 e
    exact ⟨h1, Nat.le_trans (listText_le _) (Nat.add_le_add_right h2 3)⟩
  | .dic _, p, ho, h => by cases h
  | .obj _, p, ho, h => by cases h
  | .scr _, p, ho, h => by cases h
theorem shownL_le : ∀ (ds : List D) (ps : List PyData), D.okL ds = true → D.pyL ds = some ps → PyData.showableAll ps = true ∧ piled (PyData.shownAll ps) ≤ D.wL ds
  | [], ps, _, h => by cases h; exact ⟨rfl, Nat.le_refl _⟩
  | d :: ds, ps, ho, h => by
    obtain ⟨q, qs, e1, e2, rfl⟩ := D.pyL_cons h
    simp only [D.okL, Bool.and_eq_true] at ho
    obtain ⟨h1, h2⟩ := shown_le d q ho.1 e1
    obtain ⟨h3, h4⟩ := shownL_le ds qs ho.2 e2
    refine ⟨by simp [PyData.showableAll, h1, h3], ?_⟩
    show piled (q.shown :: PyData.shownAll qs) ≤ D.w d + 2 + D.wL ds
    rw [piled_cons]; omega
end
/-- what repr answers -/
theorem shown_ok {d : D} (f : d.dep ≤ 60) (ho : D.ok d = true) (hw : D.w d ≤ 16777216) : ∃ z, shownM d = .ret (.str z) := by
  have hs : d.sh = true := Fit.sh ⟨ho, f⟩
  obtain ⟨p, e, _, _⟩ := D.py_pl d (ok_pl d ho)
  obtain ⟨h1, h2⟩ := shown_le d p ho e
  refine ⟨p.shown, ?_⟩
  unfold shownM
  rw [if_pos hs]
  simp only [e]
  rw [if_pos ⟨h1, by rw [sizeLine_eq]; omega⟩]
def allB (d : D) : List D := [.bl (intB d), .bl (numB d), .bl (nameB d), .bl (kindB d), .bl (sortB d), .bl (rowB d), .bl (pageB d), .bl (gapsB d), .bl (signB d), .bl (wayB d)]
theorem add_l (a b : List D) (h : a.length + b.length ≤ 1000) : addM (.lst a) (.lst b) = .ret (.lst (a ++ b)) := if_pos (sz1000 h)
theorem gaps_fit {d : D} (f : Fit d) : M_is_gaps [d] = .ret (.bl (gapsB d)) := is_gaps_eq f.ob (fun x hx => by
  cases d with
  | tup xs => exact (f.mem x hx).ob
  | _ => cases hx) (by
  cases d with
  | tup xs => exact f.len
  | _ => exact Nat.zero_le _)
theorem told_eq {d : D} (f : Fit d) : M__law_told [d] = .ret (.lst (allB d)) := by
  have z6 : (6 : Nat) ≤ sizeLine := by decide
  have z4 : (4 : Nat) ≤ sizeLine := by decide
  unfold M__law_told b__law_told
  simp [runB, startE, sSeq, sIf, sRet, sSet, sPar, sNil, sDrop, eBin, eUn, eC, eVar, eAnd, eOr, eNot, notD, eF, eCL, L1, L1N, nCL, aCons, aNil, eTup, nLst, eN, tV, tTru, asB, tru, tOrM, tAndM, tNotM, eIf, eSl, pSome, pNo, nUn, M.ret_bind, List.map_cons, List.map_nil, List.length_cons, List.length_nil, List.replicate, List.cons_append, List.nil_append, List.getElem?_cons_zero, List.getElem?_cons_succ, List.set_cons_zero, List.set_cons_succ, is_integer_eq f.ob, is_number_eq f.ob, is_name_eq f, is_kind_eq f, is_sort_eq f, is_row_eq f, is_text_eq f, gaps_fit f, is_complaint_eq f, is_way_eq f, z6, z4, add_l, allB]
theorem named_eq {d : D} (f : Fit d) : M__law_named [d] = .ret (.lst (allB d)) := by
  have z2 : (2 : Nat) ≤ sizeLine := by decide
  have z4 : (4 : Nat) ≤ sizeLine := by decide
  unfold M__law_named b__law_named
  simp [runB, startE, sSeq, sIf, sRet, sSet, sPar, sNil, sDrop, eBin, eUn, eC, eVar, eAnd, eOr, eNot, notD, eF, eCL, L1, L1N, nCL, aCons, aNil, eTup, nLst, eN, tV, tTru, asB, tru, tOrM, tAndM, tNotM, eIf, eSl, pSome, pNo, nUn, M.ret_bind, List.map_cons, List.map_nil, List.length_cons, List.length_nil, List.replicate, List.cons_append, List.nil_append, List.getElem?_cons_zero, List.getElem?_cons_succ, List.set_cons_zero, List.set_cons_succ, is_integer_eq f.ob, is_number_eq f.ob, is_name_eq f, is_kind_eq f, is_sort_eq f, is_row_eq f, is_text_eq f, gaps_fit f, is_complaint_eq f, is_way_eq f, z2, z4, add_l, allB]
theorem due_eq {d : D} (f : Fit d) : M__law_due [d] = .ret (.lst (allB d)) := by
  have z5 : (5 : Nat) ≤ sizeLine := by decide
  have hi : isiM "int" d = .ret (.bl (isiB "int" (tyN d))) := by
    have o := f.ob
    cases d <;> first | rfl | cases o
  have hb : isiM "bool" d = .ret (.bl (isiB "bool" (tyN d))) := by
    have o := f.ob
    cases d <;> first | rfl | cases o
  have hib : (if isiB "int" (tyN d) = true then (!isiB "bool" (tyN d)) else false) = intB d := by
    have o := f.ob
    cases d <;> first | rfl | cases o
  have he : eAnd (eUn (isiM "int") (eVar 0)) (eNot (eUn (isiM "bool") (eVar 0))) [.v d, .no, .no] = .ret (.bl (intB d)) := by
    rw [← hib]
    simp only [runB, startE, sSeq, sIf, sRet, sSet, sPar, sNil, sDrop, eBin, eUn, eC, eVar, eAnd, eOr, eNot, notD, eF, eCL, L1, L1N, nCL, aCons, aNil, eTup, nLst, eN, tV, tTru, asB, tru, tOrM, tAndM, tNotM, eIf, eSl, pSome, pNo, nUn, M.ret_bind, List.map_cons, List.map_nil, List.length_cons, List.length_nil, List.replicate, List.cons_append, List.nil_append, List.getElem?_cons_zero, List.getElem?_cons_succ, List.set_cons_zero, List.set_cons_succ, hi, hb]
    cases isiB "int" (tyN d) <;> rfl
  have hm : M__law_due [d] = (sSet 1 (eAnd (eUn (isiM "int") (eVar 0)) (eNot (eUn (isiM "bool") (eVar 0)))) [.v d, .no, .no] >>= fun c => match c with
    | .nx ρ => (sSeq (sSet 2 (eN (nLst (aCons (eVar 1) (aCons (eF 1 M__law_is_number (aCons (eVar 0) aNil)) (aCons (eF 1 M__law_is_name (aCons (eVar 0) aNil)) (aCons (eF 1 M__law_is_kind (aCons (eVar 0) aNil)) (aCons (eF 1 M__law_is_sort (aCons (eVar 0) aNil)) aNil)))))))) (sRet (eBin addM (eVar 2) (eN (nLst (aCons (eF 1 M__law_is_item (aCons (eVar 0) aNil)) (aCons (eF 1 M__law_is_page (aCons (eVar 0) aNil)) (aCons (eF 1 M__law_is_set (aCons (eVar 0) aNil)) (aCons (eF 1 M__law_is_sign (aCons (eVar 0) aNil)) (aCons (eF 1 M__law_is_put (aCons (eVar 0) aNil)) aNil)))))))))) ρ
    | c => .ret c) >>= fun c => match c with
    | .rt d => .ret d
    | .nx _ => .ret .non
    | _ => .bad := rfl
  rw [hm]
  unfold sSet
  rw [he]
  simp [runB, startE, sSeq, sIf, sRet, sSet, sPar, sNil, sDrop, eBin, eUn, eC, eVar, eAnd, eOr, eNot, notD, eF, eCL, L1, L1N, nCL, aCons, aNil, eTup, nLst, eN, tV, tTru, asB, tru, tOrM, tAndM, tNotM, eIf, eSl, pSome, pNo, nUn, M.ret_bind, List.map_cons, List.map_nil, List.length_cons, List.length_nil, List.replicate, List.cons_append, List.nil_append, List.getElem?_cons_zero, List.getElem?_cons_succ, List.set_cons_zero, List.set_cons_succ, law_is_number_eq f.ob, law_is_name_eq f, law_is_kind_eq f, law_is_sort_eq f, law_is_item_eq f, law_is_page_eq f, law_is_set_eq f, law_is_sign_eq f, law_is_put_eq f, z5, add_l, allB]
theorem allB_repr (d : D) : ∃ z, reprM (.lst (allB d)) = .ret (.str z) := shown_ok (d := .lst (allB d)) (by show (1 : Nat) ≤ 60; decide) (by simp [D.ok, D.okL, allB]) (by show 10 * (5 + 2) + 3 ≤ 16777216; decide)
end G
namespace G
open PySem PySem.Spec PyProof.Rows L2 F
/-! ## bounds of what is drawn -/
mutual
def D.g (n : Nat) : D → Bool
  | .non => true
  | .bl _ => true
  | .int i => decide (i.natAbs ≤ 10 ^ 59 + n)
  | .str x => PyData.strOk x && decide (x.length ≤ 70 + n)
  | .tup xs => decide (xs.length ≤ 10 + n) && D.gL n xs
  | .lst xs => decide (xs.length ≤ 10 + n) && D.gL n xs
  | _ => false
def D.gL (n : Nat) : List D → Bool
  | [] => true
  | x :: xs => D.g n x && D.gL n xs
end
mutual
theorem g_ok {n : Nat} (hn : n ≤ 20) : ∀ d : D, D.g n d = true → D.ok d = true
  | .non, _ => rfl
  | .bl _, _ => rfl
  | .int i, h => by
    simp only [D.g, decide_eq_true_eq] at h
    simp only [D.ok, decide_eq_true_eq]
    have : (10 : Nat) ^ 59 + 20 < 10 ^ 61 := by decide
    omega
  | .str x, h => by
    simp only [D.g, Bool.and_eq_true, decide_eq_true_eq] at h
    simp only [D.ok, Bool.and_eq_true, decide_eq_true_eq]
    exact ⟨h.1, by omega⟩
  | .tup xs, h => by
    simp only [D.g, Bool.and_eq_true, decide_eq_true_eq] at h
    simp only [D.ok, Bool.and_eq_true, decide_eq_true_eq, Bool.or_eq_true]
    exact ⟨⟨by omega, .inr (by omega)⟩, gL_ok hn xs h.2⟩
  | .lst xs, h => by
    simp only [D.g, Bool.and_eq_true, decide_eq_true_eq] at h
    simp only [D.ok, Bool.and_eq_true, decide_eq_true_eq]
    exact ⟨by omega, gL_ok hn xs h.2⟩
  | .dic _, h => by simp [D.g] at h
  | .obj _, h => by simp [D.g] at h
  | .scr _, h => by simp [D.g] at h
theorem gL_ok {n : Nat} (hn : n ≤ 20) : ∀ ds : List D, D.gL n ds = true → D.okL ds = true
  | [], _ => rfl
  | d :: ds, h => by
    simp only [D.gL, Bool.and_eq_true] at h
    simp only [D.okL, Bool.and_eq_true]
    exact ⟨g_ok hn d h.1, gL_ok hn ds h.2⟩
end
mutual
theorem g_mono {n m : Nat} (hn : n ≤ m) : ∀ d : D, D.g n d = true → D.g m d = true
  | .non, _ => rfl
  | .bl _, _ => rfl
  | .int i, h => by
    simp only [D.g, decide_eq_true_eq] at h ⊢; omega
  | .str x, h => by
    simp only [D.g, Bool.and_eq_true, decide_eq_true_eq] at h ⊢
    exact ⟨h.1, by omega⟩
  | .tup xs, h => by
    simp only [D.g, Bool.and_eq_true, decide_eq_true_eq] at h ⊢
    exact ⟨by omega, gL_mono hn xs h.2⟩
  | .lst xs, h => by
    simp only [D.g, Bool.and_eq_true, decide_eq_true_eq] at h ⊢
    exact ⟨by omega, gL_mono hn xs h.2⟩
  | .dic _, h => by simp [D.g] at h
  | .obj _, h => by simp [D.g] at h
  | .scr _, h => by simp [D.g] at h
theorem gL_mono {n m : Nat} (hn : n ≤ m) : ∀ ds : List D, D.gL n ds = true → D.gL m ds = true
  | [], _ => rfl
  | d :: ds, h => by
    simp only [D.gL, Bool.and_eq_true] at h ⊢
    exact ⟨g_mono hn d h.1, gL_mono hn ds h.2⟩
end
theorem gL_iff {n : Nat} {ds : List D} : D.gL n ds = true ↔ ∀ d ∈ ds, D.g n d = true := by
  induction ds with
  | nil => simp [D.gL]
  | cons x xs ih => simp [D.gL, ih]
theorem depL_iff {ds : List D} {k : Nat} : D.depL ds ≤ k ↔ ∀ d ∈ ds, d.dep ≤ k := by
  induction ds with
  | nil => simp [D.depL]
  | cons x xs ih =>
    simp only [D.depL, List.forall_mem_cons, ← ih]
    omega
theorem wL_append (a b : List D) : D.wL (a ++ b) = D.wL a + D.wL b := by
  induction a with
  | nil => simp [D.wL]
  | cons x a ih => simp only [List.cons_append, D.wL, ih]; omega
theorem wL_le {W : Nat} : ∀ {ds : List D}, (∀ d ∈ ds, D.w d ≤ W) → D.wL ds ≤ ds.length * (W + 2)
  | [], _ => Nat.zero_le _
  | d :: ds, h => by
    have h1 := h d List.mem_cons_self
    have h2 := wL_le fun x hx => h x (List.mem_cons_of_mem _ hx)
    simp only [D.wL, List.length_cons, Nat.add_mul]
    omega
/-- bounded data -/
structure Ty (n k W : Nat) (d : D) : Prop where
  g : D.g n d = true
  k : d.dep ≤ k
  w : D.w d ≤ W
theorem Ty.mono {n k W n' k' W' : Nat} {d : D} (t : Ty n k W d) (h1 : n ≤ n' := by omega) (h2 : k ≤ k' := by omega) (h3 : W ≤ W' := by omega) : Ty n' k' W' d := ⟨g_mono h1 d t.g, Nat.le_trans t.k h2, Nat.le_trans t.w h3⟩
theorem Ty.fit {n k W : Nat} {d : D} (t : Ty n k W d) (hn : n ≤ 20) (hk : k ≤ 60) : Fit d := ⟨g_ok hn d t.g, Nat.le_trans t.k hk⟩
theorem Ty.tup {n k W : Nat} {xs : List D} (h : ∀ x ∈ xs, Ty n k W x) (hl : xs.length ≤ 10 + n) : Ty n (k + 1) (xs.length * (W + 2) + 3) (.tup xs) := by
  refine ⟨?_, ?_, ?_⟩
  · simp only [D.g, Bool.and_eq_true, decide_eq_true_eq]
    exact ⟨hl, gL_iff.mpr fun x hx => (h x hx).g⟩
  · show D.depL xs + 1 ≤ k + 1
    have := depL_iff.mpr fun x hx => (h x hx).k
    omega
  · show D.wL xs + 3 ≤ _
    have := wL_le fun x hx => (h x hx).w
    omega
theorem tyB {n k W : Nat} {d : D} (h : (D.g n d && (decide (d.dep ≤ k) && decide (D.w d ≤ W))) = true) : Ty n k W d := by
  simp only [Bool.and_eq_true, decide_eq_true_eq] at h
  exact ⟨h.1, h.2.1, h.2.2⟩
/-! ## what is drawn -/
structure Gen {α : Type} (m : M α) (P : α → Prop) : Prop where
  run : wp m [.feed] (fun a S => S = [.feed] ∧ P a) (fun _ _ => False)
theorem Gen.mono {α : Type} {m : M α} {P Q : α → Prop} (h : Gen m P) (hq : ∀ a, P a → Q a) : Gen m Q := ⟨wp_mono h.run (fun a S ⟨e, p⟩ => ⟨e, hq a p⟩) fun _ _ z => z⟩
theorem Gen.ret {α : Type} {a : α} {P : α → Prop} (h : P a) : Gen (.ret a) P := ⟨⟨rfl, h⟩⟩
theorem Gen.bind {α β : Type} {m : M α} {f : α → M β} {P : α → Prop} {Q : β → Prop} (h : Gen m P) (hf : ∀ a, P a → Gen (f a) Q) : Gen (m >>= f) Q :=
  ⟨wp_bind.mpr (wp_mono h.run (fun a S ⟨e, p⟩ => by subst e; exact (hf a p).run) fun _ _ z => z.elim)⟩
theorem gen_draw (n : Int) (h0 : 0 < n) (h1 : n < 1073741824) : Gen (M__law_draw [.obj 0, .int n]) fun d => ∃ i, d = .int i ∧ 0 ≤ i ∧ i < n :=
  ⟨⟨⟨_, rfl, rfl⟩, h0, h1, fun i a b => ⟨rfl, i, rfl, a, b⟩⟩⟩
theorem at_mem {xs : List D} {i : Int} (h0 : 0 ≤ i) (h1 : i < xs.length) : ∃ x ∈ xs, atI xs i = some x := by
  have hl : i.toNat < xs.length := by omega
  refine ⟨xs[i.toNat], List.getElem_mem _, ?_⟩
  unfold atI ixN
  rw [if_pos h0, if_pos h1]
  exact List.getElem?_eq_getElem hl
theorem gen_pick (xs : List D) (h0 : xs ≠ []) (h1 : xs.length < 1073741824) : Gen (M__law_pick [.obj 0, .lst xs]) (· ∈ xs) := by
  have hl : 0 < (xs.length : Int) := by cases xs with | nil => exact absurd rfl h0 | cons a r => simp only [List.length_cons]; omega
  unfold M__law_pick b__law_pick
  simp only [runB, startE, sSeq, sIf, sRet, sSet, sPar, sNil, sDrop, eBin, eUn, eC, eVar, eAnd, eOr, eNot, notD, eF, eCL, L1, L1N, nCL, aCons, aNil, eTup, nLst, eN, tV, tTru, asB, tru, tOrM, tAndM, tNotM, eIf, eSl, pSome, pNo, nUn, M.ret_bind, List.map_cons, List.map_nil, List.length_cons, List.length_nil, List.replicate, List.cons_append, List.nil_append, List.getElem?_cons_zero, List.getElem?_cons_succ, List.set_cons_zero, List.set_cons_succ, len_l, if_true]
  refine Gen.bind (P := fun c => ∃ x ∈ xs, c = .rt x) (Gen.bind (P := fun x => x ∈ xs) (Gen.bind (gen_draw _ hl (by omega)) fun d ⟨i, e, a, b⟩ => ?_) fun x hx => Gen.ret ⟨x, hx, rfl⟩) fun c ⟨x, hx, e⟩ => by subst e; exact Gen.ret hx
  subst e
  obtain ⟨x, hx, e⟩ := at_mem a b
  show Gen (match atI xs i with | some x => M.ret x | none => .bad) _
  rw [e]
  exact Gen.ret hx
end G
namespace G
open PySem PySem.Spec PyProof.Rows L2 F
/-- a short sound text -/
abbrev Nm (d : D) : Prop := Ty 0 0 90 d
theorem zl {n : Nat} (h : n ≤ 1000) : (n ≤ sizeLine) = True := eq_true (sz1000 h)
theorem lt_c (i j : Int) : ltM (.int i) (.int j) = .ret (.bl (decide (i < j))) := rfl
theorem bars (lean : Int) (h0 : 0 ≤ lean) (h1 : lean < 4) : ∃ p q : Int, idxM (.lst [.tup [.int 3, .int 6], .tup [.int 2, .int 8], .tup [.int 7, .int 8], .tup [.int 1, .int 2]]) (.int lean) = .ret (.tup [.int p, .int q]) := by
  have : lean = 0 ∨ lean = 1 ∨ lean = 2 ∨ lean = 3 := by omega
  rcases this with e | e | e | e <;> subst e <;> exact ⟨_, _, rfl⟩
theorem ty2 {k W : Nat} {a b : D} (ha : Ty 0 k W a) (hb : Ty 0 k W b) (W' : Nat) (h : 2 * (W + 2) + 3 ≤ W') : Ty 0 (k + 1) W' (.tup [a, b]) :=
  (Ty.tup (n := 0) (k := k) (W := W) (xs := [a, b]) (fun x hx => by
    rcases List.mem_cons.mp hx with e | hx
    · subst e; exact ha
    · have : x = b := by simpa using hx
      subst this; exact hb) (by simp)).mono (h3 := by simpa using h)
theorem ty3 {k W : Nat} {a b c : D} (ha : Ty 0 k W a) (hb : Ty 0 k W b) (hc : Ty 0 k W c) (W' : Nat) (h : 3 * (W + 2) + 3 ≤ W') : Ty 0 (k + 1) W' (.tup [a, b, c]) :=
  (Ty.tup (n := 0) (k := k) (W := W) (xs := [a, b, c]) (fun x hx => by
    rcases List.mem_cons.mp hx with e | hx
    · subst e; exact ha
    rcases List.mem_cons.mp hx with e | hx
    · subst e; exact hb
    · have : x = c := by simpa using hx
      subst this; exact hc) (by simp)).mono (h3 := by simpa using h)
theorem gen_item (ns ks : List D) (lean : Int) (hn : ∀ x ∈ ns, Nm x) (hk : ∀ x ∈ ks, Nm x) (n0 : ns ≠ []) (k0 : ks ≠ []) (n1 : ns.length ≤ 100) (k1 : ks.length ≤ 100) (h0 : 0 ≤ lean) (h1 : lean < 4) :
    Gen (M__law_item [.obj 0, .lst ns, .lst ks, .int lean]) (Ty 0 2 400) := by
  obtain ⟨p, q, hb⟩ := bars lean h0 h1
  unfold M__law_item b__law_item
  try simp only [runB, startE, sSeq, sIf, sRet, sSet, sPar, sNil, sDrop, eBin, eUn, eC, eVar, eAnd, eOr, eNot, notD, eF, eCL, L1, L1N, nCL, aCons, aNil, eTup, nLst, eN, tV, tTru, asB, tru, tOrM, tAndM, tNotM, eIf, eSl, pSome, pNo, nUn, M.ret_bind, List.map_cons, List.map_nil, List.length_cons, List.length_nil, List.replicate, List.cons_append, List.nil_append, List.getElem?_cons_zero, List.getElem?_cons_succ, List.set_cons_zero, List.set_cons_succ, M.bind_assoc, if_true, zl, Nat.reduceAdd, Nat.reduceLeDiff]
  refine Gen.bind (gen_draw 12 (by decide) (by decide)) fun d ⟨i, e, a, b⟩ => ?_
  subst e
  try simp only [runB, startE, sSeq, sIf, sRet, sSet, sPar, sNil, sDrop, eBin, eUn, eC, eVar, eAnd, eOr, eNot, notD, eF, eCL, L1, L1N, nCL, aCons, aNil, eTup, nLst, eN, tV, tTru, asB, tru, tOrM, tAndM, tNotM, eIf, eSl, pSome, pNo, nUn, M.ret_bind, List.map_cons, List.map_nil, List.length_cons, List.length_nil, List.replicate, List.cons_append, List.nil_append, List.getElem?_cons_zero, List.getElem?_cons_succ, List.set_cons_zero, List.set_cons_succ, M.bind_assoc, if_true, zl, Nat.reduceAdd, Nat.reduceLeDiff, hb, ix0, lt_c]
  cases decide (i < p) with
  | true =>
    try simp only [runB, startE, sSeq, sIf, sRet, sSet, sPar, sNil, sDrop, eBin, eUn, eC, eVar, eAnd, eOr, eNot, notD, eF, eCL, L1, L1N, nCL, aCons, aNil, eTup, nLst, eN, tV, tTru, asB, tru, tOrM, tAndM, tNotM, eIf, eSl, pSome, pNo, nUn, M.ret_bind, List.map_cons, List.map_nil, List.length_cons, List.length_nil, List.replicate, List.cons_append, List.nil_append, List.getElem?_cons_zero, List.getElem?_cons_succ, List.set_cons_zero, List.set_cons_succ, M.bind_assoc, if_true, zl, Nat.reduceAdd, Nat.reduceLeDiff]
    refine Gen.bind (gen_pick ks k0 (by omega)) fun d hd => ?_
    have td := hk d hd
    have tf : Ty 0 1 190 (.tup [.str "fun", d]) := ty2 (k := 0) (W := 90) (tyB (by decide +kernel)) td 190 (by decide)
    try simp only [runB, startE, sSeq, sIf, sRet, sSet, sPar, sNil, sDrop, eBin, eUn, eC, eVar, eAnd, eOr, eNot, notD, eF, eCL, L1, L1N, nCL, aCons, aNil, eTup, nLst, eN, tV, tTru, asB, tru, tOrM, tAndM, tNotM, eIf, eSl, pSome, pNo, nUn, M.ret_bind, List.map_cons, List.map_nil, List.length_cons, List.length_nil, List.replicate, List.cons_append, List.nil_append, List.getElem?_cons_zero, List.getElem?_cons_succ, List.set_cons_zero, List.set_cons_succ, M.bind_assoc, if_true, zl, Nat.reduceAdd, Nat.reduceLeDiff]
    refine Gen.bind (gen_pick _ (by simp) (by simp)) fun d2 hd2 => ?_
    have t2 : Ty 0 1 190 d2 := by
      simp only [List.mem_cons, List.not_mem_nil, or_false] at hd2
      rcases hd2 with e | e | e | e <;> subst e
      · exact tyB (by decide +kernel)
      · exact tyB (by decide +kernel)
      · exact tyB (by decide +kernel)
      · exact tf
    try simp only [runB, startE, sSeq, sIf, sRet, sSet, sPar, sNil, sDrop, eBin, eUn, eC, eVar, eAnd, eOr, eNot, notD, eF, eCL, L1, L1N, nCL, aCons, aNil, eTup, nLst, eN, tV, tTru, asB, tru, tOrM, tAndM, tNotM, eIf, eSl, pSome, pNo, nUn, M.ret_bind, List.map_cons, List.map_nil, List.length_cons, List.length_nil, List.replicate, List.cons_append, List.nil_append, List.getElem?_cons_zero, List.getElem?_cons_succ, List.set_cons_zero, List.set_cons_succ, M.bind_assoc, if_true, zl, Nat.reduceAdd, Nat.reduceLeDiff]
    exact Gen.ret (ty2 (k := 1) (tyB (by decide +kernel)) t2 400 (by decide))
  | false =>
    try simp only [runB, startE, sSeq, sIf, sRet, sSet, sPar, sNil, sDrop, eBin, eUn, eC, eVar, eAnd, eOr, eNot, notD, eF, eCL, L1, L1N, nCL, aCons, aNil, eTup, nLst, eN, tV, tTru, asB, tru, tOrM, tAndM, tNotM, eIf, eSl, pSome, pNo, nUn, M.ret_bind, List.map_cons, List.map_nil, List.length_cons, List.length_nil, List.replicate, List.cons_append, List.nil_append, List.getElem?_cons_zero, List.getElem?_cons_succ, List.set_cons_zero, List.set_cons_succ, M.bind_assoc, if_true, zl, Nat.reduceAdd, Nat.reduceLeDiff, ix1, lt_c]
    cases decide (i < q) with
    | true =>
      try simp only [runB, startE, sSeq, sIf, sRet, sSet, sPar, sNil, sDrop, eBin, eUn, eC, eVar, eAnd, eOr, eNot, notD, eF, eCL, L1, L1N, nCL, aCons, aNil, eTup, nLst, eN, tV, tTru, asB, tru, tOrM, tAndM, tNotM, eIf, eSl, pSome, pNo, nUn, M.ret_bind, List.map_cons, List.map_nil, List.length_cons, List.length_nil, List.replicate, List.cons_append, List.nil_append, List.getElem?_cons_zero, List.getElem?_cons_succ, List.set_cons_zero, List.set_cons_succ, M.bind_assoc, if_true, zl, Nat.reduceAdd, Nat.reduceLeDiff]
      exact Gen.ret (tyB (by decide +kernel))
    | false =>
      try simp only [runB, startE, sSeq, sIf, sRet, sSet, sPar, sNil, sDrop, eBin, eUn, eC, eVar, eAnd, eOr, eNot, notD, eF, eCL, L1, L1N, nCL, aCons, aNil, eTup, nLst, eN, tV, tTru, asB, tru, tOrM, tAndM, tNotM, eIf, eSl, pSome, pNo, nUn, M.ret_bind, List.map_cons, List.map_nil, List.length_cons, List.length_nil, List.replicate, List.cons_append, List.nil_append, List.getElem?_cons_zero, List.getElem?_cons_succ, List.set_cons_zero, List.set_cons_succ, M.bind_assoc, if_true, zl, Nat.reduceAdd, Nat.reduceLeDiff]
      refine Gen.bind (gen_draw 6 (by decide) (by decide)) fun d ⟨j, e, a, b⟩ => ?_
      subst e
      try simp only [runB, startE, sSeq, sIf, sRet, sSet, sPar, sNil, sDrop, eBin, eUn, eC, eVar, eAnd, eOr, eNot, notD, eF, eCL, L1, L1N, nCL, aCons, aNil, eTup, nLst, eN, tV, tTru, asB, tru, tOrM, tAndM, tNotM, eIf, eSl, pSome, pNo, nUn, M.ret_bind, List.map_cons, List.map_nil, List.length_cons, List.length_nil, List.replicate, List.cons_append, List.nil_append, List.getElem?_cons_zero, List.getElem?_cons_succ, List.set_cons_zero, List.set_cons_succ, M.bind_assoc, if_true, zl, Nat.reduceAdd, Nat.reduceLeDiff, lt_c]
      cases decide (j < 4) with
      | true =>
        try simp only [runB, startE, sSeq, sIf, sRet, sSet, sPar, sNil, sDrop, eBin, eUn, eC, eVar, eAnd, eOr, eNot, notD, eF, eCL, L1, L1N, nCL, aCons, aNil, eTup, nLst, eN, tV, tTru, asB, tru, tOrM, tAndM, tNotM, eIf, eSl, pSome, pNo, nUn, M.ret_bind, List.map_cons, List.map_nil, List.length_cons, List.length_nil, List.replicate, List.cons_append, List.nil_append, List.getElem?_cons_zero, List.getElem?_cons_succ, List.set_cons_zero, List.set_cons_succ, M.bind_assoc, if_true, zl, Nat.reduceAdd, Nat.reduceLeDiff]
        refine Gen.bind (gen_pick _ (by simp) (by simp)) fun d1 hd1 => ?_
        have t1 : Nm d1 := by
          simp only [List.mem_cons, List.not_mem_nil, or_false] at hd1
          rcases hd1 with e | e <;> subst e <;> exact tyB (by decide +kernel)
        try simp only [runB, startE, sSeq, sIf, sRet, sSet, sPar, sNil, sDrop, eBin, eUn, eC, eVar, eAnd, eOr, eNot, notD, eF, eCL, L1, L1N, nCL, aCons, aNil, eTup, nLst, eN, tV, tTru, asB, tru, tOrM, tAndM, tNotM, eIf, eSl, pSome, pNo, nUn, M.ret_bind, List.map_cons, List.map_nil, List.length_cons, List.length_nil, List.replicate, List.cons_append, List.nil_append, List.getElem?_cons_zero, List.getElem?_cons_succ, List.set_cons_zero, List.set_cons_succ, M.bind_assoc, if_true, zl, Nat.reduceAdd, Nat.reduceLeDiff]
        refine Gen.bind (gen_pick ns n0 (by omega)) fun d2 hd2 => ?_
        try simp only [runB, startE, sSeq, sIf, sRet, sSet, sPar, sNil, sDrop, eBin, eUn, eC, eVar, eAnd, eOr, eNot, notD, eF, eCL, L1, L1N, nCL, aCons, aNil, eTup, nLst, eN, tV, tTru, asB, tru, tOrM, tAndM, tNotM, eIf, eSl, pSome, pNo, nUn, M.ret_bind, List.map_cons, List.map_nil, List.length_cons, List.length_nil, List.replicate, List.cons_append, List.nil_append, List.getElem?_cons_zero, List.getElem?_cons_succ, List.set_cons_zero, List.set_cons_succ, M.bind_assoc, if_true, zl, Nat.reduceAdd, Nat.reduceLeDiff]
        refine Gen.bind (gen_pick ks k0 (by omega)) fun d3 hd3 => ?_
        try simp only [runB, startE, sSeq, sIf, sRet, sSet, sPar, sNil, sDrop, eBin, eUn, eC, eVar, eAnd, eOr, eNot, notD, eF, eCL, L1, L1N, nCL, aCons, aNil, eTup, nLst, eN, tV, tTru, asB, tru, tOrM, tAndM, tNotM, eIf, eSl, pSome, pNo, nUn, M.ret_bind, List.map_cons, List.map_nil, List.length_cons, List.length_nil, List.replicate, List.cons_append, List.nil_append, List.getElem?_cons_zero, List.getElem?_cons_succ, List.set_cons_zero, List.set_cons_succ, M.bind_assoc, if_true, zl, Nat.reduceAdd, Nat.reduceLeDiff]
        exact Gen.ret ((ty3 (k := 0) (W := 90) t1 (hn _ hd2) (hk _ hd3) 400 (by decide)).mono)
      | false =>
        try simp only [runB, startE, sSeq, sIf, sRet, sSet, sPar, sNil, sDrop, eBin, eUn, eC, eVar, eAnd, eOr, eNot, notD, eF, eCL, L1, L1N, nCL, aCons, aNil, eTup, nLst, eN, tV, tTru, asB, tru, tOrM, tAndM, tNotM, eIf, eSl, pSome, pNo, nUn, M.ret_bind, List.map_cons, List.map_nil, List.length_cons, List.length_nil, List.replicate, List.cons_append, List.nil_append, List.getElem?_cons_zero, List.getElem?_cons_succ, List.set_cons_zero, List.set_cons_succ, M.bind_assoc, if_true, zl, Nat.reduceAdd, Nat.reduceLeDiff, eq_i]
        cases j == 4 with
        | true =>
          try simp only [runB, startE, sSeq, sIf, sRet, sSet, sPar, sNil, sDrop, eBin, eUn, eC, eVar, eAnd, eOr, eNot, notD, eF, eCL, L1, L1N, nCL, aCons, aNil, eTup, nLst, eN, tV, tTru, asB, tru, tOrM, tAndM, tNotM, eIf, eSl, pSome, pNo, nUn, M.ret_bind, List.map_cons, List.map_nil, List.length_cons, List.length_nil, List.replicate, List.cons_append, List.nil_append, List.getElem?_cons_zero, List.getElem?_cons_succ, List.set_cons_zero, List.set_cons_succ, M.bind_assoc, if_true, zl, Nat.reduceAdd, Nat.reduceLeDiff]
          exact Gen.ret (tyB (by decide +kernel))
        | false =>
          have ha : addM (.lst ks) (.lst [.str ""]) = .ret (.lst (ks ++ [.str ""])) := add_l _ _ (by simp; omega)
          try simp only [runB, startE, sSeq, sIf, sRet, sSet, sPar, sNil, sDrop, eBin, eUn, eC, eVar, eAnd, eOr, eNot, notD, eF, eCL, L1, L1N, nCL, aCons, aNil, eTup, nLst, eN, tV, tTru, asB, tru, tOrM, tAndM, tNotM, eIf, eSl, pSome, pNo, nUn, M.ret_bind, List.map_cons, List.map_nil, List.length_cons, List.length_nil, List.replicate, List.cons_append, List.nil_append, List.getElem?_cons_zero, List.getElem?_cons_succ, List.set_cons_zero, List.set_cons_succ, M.bind_assoc, if_true, zl, Nat.reduceAdd, Nat.reduceLeDiff, ha]
          refine Gen.bind (gen_pick _ (by simp) (by simp; omega)) fun d1 hd1 => ?_
          have t1 : Nm d1 := by
            rcases List.mem_append.mp hd1 with e | e
            · exact hk _ e
            · have : d1 = .str "" := by simpa using e
              subst this; exact tyB (by decide +kernel)
          try simp only [runB, startE, sSeq, sIf, sRet, sSet, sPar, sNil, sDrop, eBin, eUn, eC, eVar, eAnd, eOr, eNot, notD, eF, eCL, L1, L1N, nCL, aCons, aNil, eTup, nLst, eN, tV, tTru, asB, tru, tOrM, tAndM, tNotM, eIf, eSl, pSome, pNo, nUn, M.ret_bind, List.map_cons, List.map_nil, List.length_cons, List.length_nil, List.replicate, List.cons_append, List.nil_append, List.getElem?_cons_zero, List.getElem?_cons_succ, List.set_cons_zero, List.set_cons_succ, M.bind_assoc, if_true, zl, Nat.reduceAdd, Nat.reduceLeDiff]
          exact Gen.ret ((ty2 (k := 0) (W := 90) (tyB (by decide +kernel)) t1 400 (by decide)).mono)
/-! ## comprehensions that draw -/
theorem gen_comp {gm : GM} {em : Ev → M D} {ρ : Ev} {P : D → Prop} : ∀ ds : List D, (∀ d ∈ ds, ∃ ρ', gm d ρ = some ρ' ∧ Gen (em ρ') P) → Gen (compM (compI gm tYesM em ρ) ds) fun r => r.length = ds.length ∧ ∀ x ∈ r, P x
  | [], _ => Gen.ret ⟨rfl, fun x hx => (nomatch hx)⟩
  | d :: ds, h => by
    obtain ⟨ρ', h1, h2⟩ := h d List.mem_cons_self
    have ih := gen_comp (gm := gm) (em := em) (ρ := ρ) (P := P) ds fun x hx => h x (List.mem_cons_of_mem _ hx)
    have hc : compI gm tYesM em ρ d = em ρ' >>= fun y => M.ret (some y) := by
      unfold compI
      rw [h1]; rfl
    show Gen (compI gm tYesM em ρ d >>= fun o => compM (compI gm tYesM em ρ) ds >>= fun r => M.ret (o.toList ++ r)) _
    rw [hc, M.bind_assoc]
    refine Gen.bind h2 fun y hy => ?_
    show Gen (compM (compI gm tYesM em ρ) ds >>= fun r => M.ret ((some y).toList ++ r)) _
    refine Gen.bind ih fun r ⟨e, hr⟩ => Gen.ret ⟨by simp [e], fun x hx => ?_⟩
    rcases List.mem_cons.mp (show x ∈ y :: r from hx) with q | q
    · subst q; exact hy
    · exact hr x q
theorem gen_noerr {α : Type} {m : M α} {P : α → Prop} (h : Gen m P) : Gen m.noerr P := ⟨wp_noerr.mpr h.run⟩
theorem gen_nComp {vs : List Nat} {it : Ev → M (List D)} {gm : GM} {em : Ev → M D} {ρ : Ev} {P : D → Prop} {n : Nat} (hi : Gen (it ρ) fun ds => ds.length ≤ n ∧ ∀ d ∈ ds, ∃ ρ', gm d (wipeE ρ vs) = some ρ' ∧ Gen (em ρ') P) (hn : n ≤ 1000) :
    Gen (nComp vs it gm tYesM em ρ) fun r => r.length ≤ n ∧ ∀ x ∈ r, P x := by
  unfold nComp
  refine Gen.bind hi fun ds ⟨hl, h⟩ => ?_
  rw [if_pos (sz1000 (by omega))]
  exact gen_noerr ((gen_comp ds h).mono fun r ⟨e, q⟩ => ⟨by omega, q⟩)
theorem rangeD_len (a : Int) (n : Nat) : (rangeD a n).length = n := by unfold rangeD; simp
end G
namespace G
open PySem PySem.Spec PyProof.Rows L2 F
theorem gen_nCompL {vs : List Nat} {it : Ev → M (List D)} {gm : GM} {em : Ev → M D} {ρ : Ev} {P : D → Prop} {L : Nat → Prop} (hi : Gen (it ρ) fun ds => (L ds.length ∧ ds.length ≤ 1000) ∧ ∀ d ∈ ds, ∃ ρ', gm d (wipeE ρ vs) = some ρ' ∧ Gen (em ρ') P) :
    Gen (nComp vs it gm tYesM em ρ) fun r => L r.length ∧ ∀ x ∈ r, P x := by
  unfold nComp
  refine Gen.bind hi fun ds ⟨⟨hL, hl⟩, h⟩ => ?_
  rw [if_pos (sz1000 hl)]
  exact gen_noerr ((gen_comp ds h).mono fun r ⟨e, q⟩ => ⟨by rw [e]; exact hL, q⟩)
theorem rng1_i (i : Int) (h0 : 0 ≤ i) (h1 : i ≤ 1000) : rng1 [.int i] = .ret (rangeD 0 i.toNat) := if_pos ⟨by omega, by omega⟩
theorem mem_ty {n k W : Nat} {d : D} {L : List D} (hd : d ∈ L) (h : (L.all fun d => D.g n d && (decide (d.dep ≤ k) && decide (D.w d ≤ W))) = true) : Ty n k W d := tyB (List.all_eq_true.mp h d hd)
theorem gen_page (most : Int) (h0 : 0 ≤ most) (h1 : most ≤ 9) : Gen (M__law_page [.obj 0, .int most]) fun d => ∃ xs, d = .tup xs ∧ xs.length ≤ most.toNat ∧ ∀ x ∈ xs, Ty 0 2 400 x := by
  unfold M__law_page b__law_page
  try simp only [runB, startE, sSeq, sIf, sRet, sSet, sPar, sNil, sDrop, eBin, eUn, eC, eVar, eAnd, eOr, eNot, notD, eF, eCL, L1, L1N, nCL, aCons, aNil, eTup, nLst, eN, tV, tTru, asB, tru, tOrM, tAndM, tNotM, eIf, eSl, pSome, pNo, nUn, M.ret_bind, List.map_cons, List.map_nil, List.length_cons, List.length_nil, List.replicate, List.cons_append, List.nil_append, List.getElem?_cons_zero, List.getElem?_cons_succ, List.set_cons_zero, List.set_cons_succ, M.bind_assoc, if_true, zl, Nat.reduceAdd, Nat.reduceLeDiff, M.bind_assoc]
  refine Gen.bind (gen_nCompL (P := Nm) (L := fun n => 1 ≤ n ∧ n ≤ 100) ?_) fun ns ⟨hL, hN⟩ => ?_
  · unfold iR1
    try simp only [runB, startE, sSeq, sIf, sRet, sSet, sPar, sNil, sDrop, eBin, eUn, eC, eVar, eAnd, eOr, eNot, notD, eF, eCL, L1, L1N, nCL, aCons, aNil, eTup, nLst, eN, tV, tTru, asB, tru, tOrM, tAndM, tNotM, eIf, eSl, pSome, pNo, nUn, M.ret_bind, List.map_cons, List.map_nil, List.length_cons, List.length_nil, List.replicate, List.cons_append, List.nil_append, List.getElem?_cons_zero, List.getElem?_cons_succ, List.set_cons_zero, List.set_cons_succ, M.bind_assoc, if_true, zl, Nat.reduceAdd, Nat.reduceLeDiff]
    refine Gen.bind (gen_draw 3 (by decide) (by decide)) fun d ⟨i, e, a, b⟩ => ?_
    subst e
    try simp only [runB, startE, sSeq, sIf, sRet, sSet, sPar, sNil, sDrop, eBin, eUn, eC, eVar, eAnd, eOr, eNot, notD, eF, eCL, L1, L1N, nCL, aCons, aNil, eTup, nLst, eN, tV, tTru, asB, tru, tOrM, tAndM, tNotM, eIf, eSl, pSome, pNo, nUn, M.ret_bind, List.map_cons, List.map_nil, List.length_cons, List.length_nil, List.replicate, List.cons_append, List.nil_append, List.getElem?_cons_zero, List.getElem?_cons_succ, List.set_cons_zero, List.set_cons_succ, M.bind_assoc, if_true, zl, Nat.reduceAdd, Nat.reduceLeDiff, add_i]
    rw [rng1_i _ (by omega) (by omega)]
    refine Gen.ret ⟨by rw [rangeD_len]; omega, fun d hd => ⟨_, rfl, ?_⟩⟩
    try simp only [runB, startE, sSeq, sIf, sRet, sSet, sPar, sNil, sDrop, eBin, eUn, eC, eVar, eAnd, eOr, eNot, notD, eF, eCL, L1, L1N, nCL, aCons, aNil, eTup, nLst, eN, tV, tTru, asB, tru, tOrM, tAndM, tNotM, eIf, eSl, pSome, pNo, nUn, M.ret_bind, List.map_cons, List.map_nil, List.length_cons, List.length_nil, List.replicate, List.cons_append, List.nil_append, List.getElem?_cons_zero, List.getElem?_cons_succ, List.set_cons_zero, List.set_cons_succ, M.bind_assoc, if_true, zl, Nat.reduceAdd, Nat.reduceLeDiff, wipeE, gN]
    exact (gen_pick _ (by simp) (by simp)).mono fun x hx => mem_ty hx (by decide +kernel)
  try simp only [runB, startE, sSeq, sIf, sRet, sSet, sPar, sNil, sDrop, eBin, eUn, eC, eVar, eAnd, eOr, eNot, notD, eF, eCL, L1, L1N, nCL, aCons, aNil, eTup, nLst, eN, tV, tTru, asB, tru, tOrM, tAndM, tNotM, eIf, eSl, pSome, pNo, nUn, M.ret_bind, List.map_cons, List.map_nil, List.length_cons, List.length_nil, List.replicate, List.cons_append, List.nil_append, List.getElem?_cons_zero, List.getElem?_cons_succ, List.set_cons_zero, List.set_cons_succ, M.bind_assoc, if_true, zl, Nat.reduceAdd, Nat.reduceLeDiff]
  refine Gen.bind (gen_nCompL (P := Nm) (L := fun n => 1 ≤ n ∧ n ≤ 100) ?_) fun ks ⟨kL, hK⟩ => ?_
  · unfold iR1
    try simp only [runB, startE, sSeq, sIf, sRet, sSet, sPar, sNil, sDrop, eBin, eUn, eC, eVar, eAnd, eOr, eNot, notD, eF, eCL, L1, L1N, nCL, aCons, aNil, eTup, nLst, eN, tV, tTru, asB, tru, tOrM, tAndM, tNotM, eIf, eSl, pSome, pNo, nUn, M.ret_bind, List.map_cons, List.map_nil, List.length_cons, List.length_nil, List.replicate, List.cons_append, List.nil_append, List.getElem?_cons_zero, List.getElem?_cons_succ, List.set_cons_zero, List.set_cons_succ, M.bind_assoc, if_true, zl, Nat.reduceAdd, Nat.reduceLeDiff]
    rw [rng1_i _ (by omega) (by omega)]
    refine Gen.ret ⟨by rw [rangeD_len]; decide, fun d hd => ⟨_, rfl, ?_⟩⟩
    try simp only [runB, startE, sSeq, sIf, sRet, sSet, sPar, sNil, sDrop, eBin, eUn, eC, eVar, eAnd, eOr, eNot, notD, eF, eCL, L1, L1N, nCL, aCons, aNil, eTup, nLst, eN, tV, tTru, asB, tru, tOrM, tAndM, tNotM, eIf, eSl, pSome, pNo, nUn, M.ret_bind, List.map_cons, List.map_nil, List.length_cons, List.length_nil, List.replicate, List.cons_append, List.nil_append, List.getElem?_cons_zero, List.getElem?_cons_succ, List.set_cons_zero, List.set_cons_succ, M.bind_assoc, if_true, zl, Nat.reduceAdd, Nat.reduceLeDiff, wipeE, gN]
    exact (gen_pick _ (by simp) (by simp)).mono fun x hx => mem_ty hx (by decide +kernel)
  try simp only [runB, startE, sSeq, sIf, sRet, sSet, sPar, sNil, sDrop, eBin, eUn, eC, eVar, eAnd, eOr, eNot, notD, eF, eCL, L1, L1N, nCL, aCons, aNil, eTup, nLst, eN, tV, tTru, asB, tru, tOrM, tAndM, tNotM, eIf, eSl, pSome, pNo, nUn, M.ret_bind, List.map_cons, List.map_nil, List.length_cons, List.length_nil, List.replicate, List.cons_append, List.nil_append, List.getElem?_cons_zero, List.getElem?_cons_succ, List.set_cons_zero, List.set_cons_succ, M.bind_assoc, if_true, zl, Nat.reduceAdd, Nat.reduceLeDiff]
  refine Gen.bind (gen_draw 4 (by decide) (by decide)) fun d ⟨lean, e, l0, l1⟩ => ?_
  subst e
  try simp only [runB, startE, sSeq, sIf, sRet, sSet, sPar, sNil, sDrop, eBin, eUn, eC, eVar, eAnd, eOr, eNot, notD, eF, eCL, L1, L1N, nCL, aCons, aNil, eTup, nLst, eN, tV, tTru, asB, tru, tOrM, tAndM, tNotM, eIf, eSl, pSome, pNo, nUn, M.ret_bind, List.map_cons, List.map_nil, List.length_cons, List.length_nil, List.replicate, List.cons_append, List.nil_append, List.getElem?_cons_zero, List.getElem?_cons_succ, List.set_cons_zero, List.set_cons_succ, M.bind_assoc, if_true, zl, Nat.reduceAdd, Nat.reduceLeDiff]
  refine Gen.bind (gen_nCompL (P := Ty 0 2 400) (L := fun n => n ≤ most.toNat) ?_) fun xs ⟨xL, hX⟩ => ?_
  · unfold iR1
    try simp only [runB, startE, sSeq, sIf, sRet, sSet, sPar, sNil, sDrop, eBin, eUn, eC, eVar, eAnd, eOr, eNot, notD, eF, eCL, L1, L1N, nCL, aCons, aNil, eTup, nLst, eN, tV, tTru, asB, tru, tOrM, tAndM, tNotM, eIf, eSl, pSome, pNo, nUn, M.ret_bind, List.map_cons, List.map_nil, List.length_cons, List.length_nil, List.replicate, List.cons_append, List.nil_append, List.getElem?_cons_zero, List.getElem?_cons_succ, List.set_cons_zero, List.set_cons_succ, M.bind_assoc, if_true, zl, Nat.reduceAdd, Nat.reduceLeDiff, add_i]
    refine Gen.bind (gen_draw _ (by omega) (by omega)) fun d ⟨i, e, a, b⟩ => ?_
    subst e
    try simp only [runB, startE, sSeq, sIf, sRet, sSet, sPar, sNil, sDrop, eBin, eUn, eC, eVar, eAnd, eOr, eNot, notD, eF, eCL, L1, L1N, nCL, aCons, aNil, eTup, nLst, eN, tV, tTru, asB, tru, tOrM, tAndM, tNotM, eIf, eSl, pSome, pNo, nUn, M.ret_bind, List.map_cons, List.map_nil, List.length_cons, List.length_nil, List.replicate, List.cons_append, List.nil_append, List.getElem?_cons_zero, List.getElem?_cons_succ, List.set_cons_zero, List.set_cons_succ, M.bind_assoc, if_true, zl, Nat.reduceAdd, Nat.reduceLeDiff, add_i]
    rw [rng1_i _ (by omega) (by omega)]
    refine Gen.ret ⟨by rw [rangeD_len]; omega, fun d hd => ⟨_, rfl, ?_⟩⟩
    try simp only [runB, startE, sSeq, sIf, sRet, sSet, sPar, sNil, sDrop, eBin, eUn, eC, eVar, eAnd, eOr, eNot, notD, eF, eCL, L1, L1N, nCL, aCons, aNil, eTup, nLst, eN, tV, tTru, asB, tru, tOrM, tAndM, tNotM, eIf, eSl, pSome, pNo, nUn, M.ret_bind, List.map_cons, List.map_nil, List.length_cons, List.length_nil, List.replicate, List.cons_append, List.nil_append, List.getElem?_cons_zero, List.getElem?_cons_succ, List.set_cons_zero, List.set_cons_succ, M.bind_assoc, if_true, zl, Nat.reduceAdd, Nat.reduceLeDiff, wipeE, gN]
    exact gen_item ns ks lean hN hK (fun e => by subst e; simp at hL) (fun e => by subst e; simp at kL) hL.2 kL.2 l0 l1
  try simp only [runB, startE, sSeq, sIf, sRet, sSet, sPar, sNil, sDrop, eBin, eUn, eC, eVar, eAnd, eOr, eNot, notD, eF, eCL, L1, L1N, nCL, aCons, aNil, eTup, nLst, eN, tV, tTru, asB, tru, tOrM, tAndM, tNotM, eIf, eSl, pSome, pNo, nUn, M.ret_bind, List.map_cons, List.map_nil, List.length_cons, List.length_nil, List.replicate, List.cons_append, List.nil_append, List.getElem?_cons_zero, List.getElem?_cons_succ, List.set_cons_zero, List.set_cons_succ, M.bind_assoc, if_true, zl, Nat.reduceAdd, Nat.reduceLeDiff, tupleM]
  exact Gen.ret ⟨xs, rfl, xL, hX⟩
theorem pow_59 : powM (.int 10) (.int 59) = .ret (.int (10 ^ 59)) := by
  show (if (0 : Int) ≤ 59 ∧ (59 : Int) ≤ 1000000 ∧ (10 : Int).natAbs < 2 ^ 64 then M.ret (D.int (10 ^ (59 : Int).toNat)) else M.bad) = _
  rw [if_pos ⟨by decide, by decide, by decide⟩]; rfl
theorem gen_strange : Gen (M__law_strange [.obj 0]) (Ty 0 4 700) := by
  unfold M__law_strange b__law_strange
  simp only [runB, startE, sSeq, sIf, sRet, sSet, sPar, sNil, sDrop, eBin, eUn, eC, eVar, eAnd, eOr, eNot, notD, eF, eCL, L1, L1N, nCL, aCons, aNil, eTup, nLst, eN, tV, tTru, asB, tru, tOrM, tAndM, tNotM, eIf, eSl, pSome, pNo, nUn, M.ret_bind, List.map_cons, List.map_nil, List.length_cons, List.length_nil, List.replicate, List.cons_append, List.nil_append, List.getElem?_cons_zero, List.getElem?_cons_succ, List.set_cons_zero, List.set_cons_succ, M.bind_assoc, if_true, zl, Nat.reduceAdd, Nat.reduceLeDiff, sOwn, sExt, sFrz, negM, pow_59]
  exact Gen.bind (gen_pick _ (by simp) (by simp)) fun d hd => Gen.ret (mem_ty hd (by decide +kernel))
end G
namespace G
open PySem PySem.Spec PyProof.Rows L2 F
/-! ## pieces -/
theorem cut_to {α : Type} (xs : List α) (k : Int) (h : 0 ≤ k) : cutL xs none (some k) = xs.take k.toNat := by
  unfold cutL
  have e : (some k : Option Int) = some ((k.toNat : Nat) : Int) := by congr 1; omega
  rw [e, HT.sIx_nat, HT.sIx_none, List.drop_zero, Nat.sub_zero]
  rcases Nat.le_total k.toNat xs.length with q | q
  · rw [Nat.min_eq_left q]
  · rw [Nat.min_eq_right q, List.take_of_length_le (Nat.le_refl _), List.take_of_length_le q]
theorem cut_from {α : Type} (xs : List α) (k : Int) (h : 0 ≤ k) : cutL xs (some k) none = xs.drop k.toNat := by
  unfold cutL
  have e : (some k : Option Int) = some ((k.toNat : Nat) : Int) := by congr 1; omega
  rw [e, HT.sIx_nat, HT.sIx_none]
  rcases Nat.le_total k.toNat xs.length with q | q
  · rw [Nat.min_eq_left q]
    exact List.take_of_length_le (by rw [List.length_drop]; omega)
  · rw [Nat.min_eq_right q, List.drop_of_length_le (Nat.le_refl _), List.drop_of_length_le q]; simp
theorem cut_mid {α : Type} (xs : List α) (k : Int) (h : 0 ≤ k) (h1 : k ≤ xs.length) : cutL xs (some k) (some (k + 1)) = (xs.drop k.toNat).take 1 := by
  unfold cutL
  have e : (some k : Option Int) = some ((k.toNat : Nat) : Int) := by congr 1; omega
  have e2 : (some (k + 1) : Option Int) = some ((k.toNat + 1 : Nat) : Int) := by congr 1; omega
  rw [e2, e, HT.sIx_nat, HT.sIx_nat]
  rcases Nat.lt_or_ge k.toNat xs.length with q | q
  · rw [Nat.min_eq_left (show k.toNat + 1 ≤ xs.length by omega), Nat.min_eq_left (show k.toNat ≤ xs.length by omega), Nat.add_sub_cancel_left]
  · rw [List.drop_of_length_le (show xs.length ≤ min k.toNat xs.length by omega), List.drop_of_length_le q]; simp
/-- a piece of a bounded row -/
structure Pc (n k W l : Nat) (xs : List D) : Prop where
  g : ∀ x ∈ xs, D.g n x = true
  k : ∀ x ∈ xs, x.dep ≤ k
  w : D.wL xs ≤ W
  l : xs.length ≤ l
theorem Pc.app {n k W l W' l' : Nat} {a b : List D} (p : Pc n k W l a) (q : Pc n k W' l' b) : Pc n k (W + W') (l + l') (a ++ b) := by
  refine ⟨fun x hx => ?_, fun x hx => ?_, by rw [wL_append]; have := p.w; have := q.w; omega, by rw [List.length_append]; have := p.l; have := q.l; omega⟩
  · rcases List.mem_append.mp hx with h | h
    · exact p.g x h
    · exact q.g x h
  · rcases List.mem_append.mp hx with h | h
    · exact p.k x h
    · exact q.k x h
theorem Pc.mono {n k W l n' k' W' l' : Nat} {a : List D} (p : Pc n k W l a) (h1 : n ≤ n' := by omega) (h2 : k ≤ k' := by omega) (h3 : W ≤ W' := by omega) (h4 : l ≤ l' := by omega) : Pc n' k' W' l' a :=
  ⟨fun x hx => g_mono h1 x (p.g x hx), fun x hx => Nat.le_trans (p.k x hx) h2, Nat.le_trans p.w h3, Nat.le_trans p.l h4⟩
theorem Pc.tup {n k W l : Nat} {a : List D} (p : Pc n k W l a) (hl : l ≤ 10 + n) : Ty n (k + 1) (W + 3) (.tup a) := by
  refine ⟨?_, ?_, ?_⟩
  · simp only [D.g, Bool.and_eq_true, decide_eq_true_eq]
    exact ⟨Nat.le_trans p.l hl, gL_iff.mpr p.g⟩
  · show D.depL a + 1 ≤ k + 1
    have := depL_iff.mpr p.k
    omega
  · show D.wL a + 3 ≤ _
    have := p.w
    omega
theorem Pc.lst {n k W l : Nat} {a : List D} (p : Pc n k W l a) (hl : l ≤ 10 + n) : Ty n (k + 1) (W + 3) (.lst a) := by
  refine ⟨?_, ?_, ?_⟩
  · simp only [D.g, Bool.and_eq_true, decide_eq_true_eq]
    exact ⟨Nat.le_trans p.l hl, gL_iff.mpr p.g⟩
  · show D.depL a + 1 ≤ k + 1
    have := depL_iff.mpr p.k
    omega
  · show D.wL a + 3 ≤ _
    have := p.w
    omega
theorem Pc.one {n k W : Nat} {d : D} (t : Ty n k W d) : Pc n k (W + 2) 1 [d] := by
  refine ⟨fun x hx => ?_, fun x hx => ?_, ?_, Nat.le_refl _⟩
  · have : x = d := by simpa using hx
    subst this; exact t.g
  · have : x = d := by simpa using hx
    subst this; exact t.k
  · show D.w d + 2 + 0 ≤ _
    have := t.w; omega
/-- of a bounded row's own parts -/
theorem Pc.of {n : Nat} {xs : List D} (g : D.g n (.tup xs) = true) : Pc n (D.depL xs) (D.wL xs) xs.length xs := by
  simp only [D.g, Bool.and_eq_true, decide_eq_true_eq] at g
  exact ⟨gL_iff.mp g.2, fun x hx => depL_iff.mp (Nat.le_refl _) x hx, Nat.le_refl _, Nat.le_refl _⟩
theorem Pc.sub {n k W l : Nat} {a b : List D} (p : Pc n k W l a) (h : ∀ x ∈ b, x ∈ a) : Pc n k (D.wL b) b.length b := ⟨fun x hx => p.g x (h x hx), fun x hx => p.k x (h x hx), Nat.le_refl _, Nat.le_refl _⟩
theorem wL_split (xs : List D) (k : Nat) : D.wL (xs.take k) + D.wL (xs.drop k) = D.wL xs := by rw [← wL_append, List.take_append_drop]
theorem drop_at {xs : List D} {i : Nat} {x : D} (e : xs[i]? = some x) : xs.drop i = x :: xs.drop (i + 1) := F.drop_cons e
theorem wL_rev (xs : List D) : D.wL xs.reverse = D.wL xs := by
  induction xs with
  | nil => rfl
  | cons x xs ih => rw [List.reverse_cons, wL_append, ih]; simp only [D.wL]; omega
theorem tkS {k : Nat} {xs : List D} : ∀ x ∈ xs.take k, x ∈ xs := fun x h => List.mem_of_mem_take h
theorem dpS {k : Nat} {xs : List D} : ∀ x ∈ xs.drop k, x ∈ xs := fun x h => List.mem_of_mem_drop h
theorem add_t (a b : List D) (h : a.length + b.length ≤ 1000) : addM (.tup a) (.tup b) = .ret (.tup (a ++ b)) := if_pos (sz1000 h)
theorem sl_to (xs : List D) (k : Int) (h : 0 ≤ k) : sliceM none (some k) (.tup xs) = .ret (.tup (xs.take k.toNat)) := by show M.ret (D.tup (cutL xs none (some k))) = _; rw [cut_to xs k h]
theorem sl_from (xs : List D) (k : Int) (h : 0 ≤ k) : sliceM (some k) none (.tup xs) = .ret (.tup (xs.drop k.toNat)) := by show M.ret (D.tup (cutL xs (some k) none)) = _; rw [cut_from xs k h]
theorem sl_mid (xs : List D) (k : Int) (h : 0 ≤ k) (h1 : k ≤ xs.length) : sliceM (some k) (some (k + 1)) (.tup xs) = .ret (.tup ((xs.drop k.toNat).take 1)) := by show M.ret (D.tup (cutL xs (some k) (some (k + 1)))) = _; rw [cut_mid xs k h h1]
/-! ## texts' pieces -/
theorem cutS_to (z : Str) (k : Int) (h : 0 ≤ k) : cutS z none (some k) = ⟨(z.cps.toList.take k.toNat).toArray⟩ := by
  have := cut_to z.cps.toList k h
  unfold cutL at this
  unfold cutS
  rw [show z.length = z.cps.toList.length from by rw [Array.length_toList]; rfl, this]
theorem cutS_from (z : Str) (k : Int) (h : 0 ≤ k) : cutS z (some k) none = ⟨(z.cps.toList.drop k.toNat).toArray⟩ := by
  have := cut_from z.cps.toList k h
  unfold cutL at this
  unfold cutS
  rw [show z.length = z.cps.toList.length from by rw [Array.length_toList]; rfl, this]
theorem strOk_iff (s : Str) : PyData.strOk s = true ↔ ∀ c ∈ s.cps.toList, c < 0x110000 := by
  unfold PyData.strOk
  rw [← Array.all_toList, List.all_eq_true]
  simp only [decide_eq_true_eq]
theorem app_cps (a b : Str) : (a ++ b).cps.toList = a.cps.toList ++ b.cps.toList := by
  show (a.cps ++ b.cps).toList = _
  rw [Array.toList_append]
theorem len_cps (a : Str) : a.length = a.cps.toList.length := by rw [Array.length_toList]; rfl
end G
namespace G
open PySem PySem.Spec PyProof.Rows L2 F
/-- the parts of bent -/
def bentA (rec : List D → M D) : SM := (sSeq (sSet 4 (eF 2 M__law_draw (aCons (eVar 0) (aCons (eCL (L1 lenM) (aCons (eVar 1) aNil)) aNil)))) (sRet (eBin addM (eBin addM (eSl (eVar 1) pNo (pSome (eVar 4))) (eTup (aCons (eF 2 rec (aCons (eVar 0) (aCons (eBin idxM (eVar 1) (eVar 4)) aNil))) aNil))) (eSl (eVar 1) (pSome (eBin addM (eVar 4) (eC (.int 1)))) pNo))))
theorem gen_bentA {rec : List D → M D} {a : Nat} {xs : List D} {z2 z3 z4 : Sl} (ha : a ≤ 10) (g : D.g a (.tup xs) = true) (h0 : xs ≠ [])
    (hr : ∀ x ∈ xs, Gen (rec [.obj 0, x]) (Ty (a + 1) (x.dep + 4) (2 * D.w x + 1000))) :
    Gen (bentA rec [.v (.obj 0), .v (.tup xs), z2, z3, z4]) fun c => ∃ d, c = .rt d ∧ Ty (a + 1) ((D.tup xs).dep + 4) (2 * D.w (.tup xs) + 1000) d := by
  have hl : 0 < (xs.length : Int) := by cases xs with | nil => exact absurd rfl h0 | cons a r => simp only [List.length_cons]; omega
  have hlen : xs.length ≤ 10 + a := by
    simp only [D.g, Bool.and_eq_true, decide_eq_true_eq] at g
    exact g.1
  unfold bentA
  try simp only [runB, startE, sSeq, sIf, sRet, sSet, sPar, sNil, sDrop, eBin, eUn, eC, eVar, eAnd, eOr, eNot, notD, eF, eCL, L1, L1N, nCL, aCons, aNil, eTup, nLst, eN, tV, tTru, asB, tru, tOrM, tAndM, tNotM, eIf, eSl, pSome, pNo, nUn, M.ret_bind, List.map_cons, List.map_nil, List.length_cons, List.length_nil, List.replicate, List.cons_append, List.nil_append, List.getElem?_cons_zero, List.getElem?_cons_succ, List.set_cons_zero, List.set_cons_succ, M.bind_assoc, if_true, zl, Nat.reduceAdd, Nat.reduceLeDiff, len_t]
  refine Gen.bind (gen_draw _ hl (by omega)) fun d ⟨k, e, k0, k1⟩ => ?_
  subst e
  obtain ⟨x, hx, ex⟩ := at_mem k0 k1
  have eix : idxM (.tup xs) (.int k) = .ret x := by
    show (match atI xs k with | some x => M.ret x | none => .bad) = _
    rw [ex]
  have exn : xs[k.toNat]? = some x := by
    unfold atI ixN at ex
    rw [if_pos k0, if_pos k1] at ex
    exact ex
  try simp only [runB, startE, sSeq, sIf, sRet, sSet, sPar, sNil, sDrop, eBin, eUn, eC, eVar, eAnd, eOr, eNot, notD, eF, eCL, L1, L1N, nCL, aCons, aNil, eTup, nLst, eN, tV, tTru, asB, tru, tOrM, tAndM, tNotM, eIf, eSl, pSome, pNo, nUn, M.ret_bind, List.map_cons, List.map_nil, List.length_cons, List.length_nil, List.replicate, List.cons_append, List.nil_append, List.getElem?_cons_zero, List.getElem?_cons_succ, List.set_cons_zero, List.set_cons_succ, M.bind_assoc, if_true, zl, Nat.reduceAdd, Nat.reduceLeDiff, sl_to xs k k0, eix]
  refine Gen.bind (hr x hx) fun y ty => ?_
  have hsl : sliceM (some (k + 1)) none (.tup xs) = .ret (.tup (xs.drop (k.toNat + 1))) := by
    rw [sl_from xs (k + 1) (by omega)]
    congr 3
    omega
  have l1 : (xs.take k.toNat).length ≤ k.toNat := by rw [List.length_take]; omega
  have l2 : (xs.drop (k.toNat + 1)).length = xs.length - (k.toNat + 1) := List.length_drop
  try simp only [runB, startE, sSeq, sIf, sRet, sSet, sPar, sNil, sDrop, eBin, eUn, eC, eVar, eAnd, eOr, eNot, notD, eF, eCL, L1, L1N, nCL, aCons, aNil, eTup, nLst, eN, tV, tTru, asB, tru, tOrM, tAndM, tNotM, eIf, eSl, pSome, pNo, nUn, M.ret_bind, List.map_cons, List.map_nil, List.length_cons, List.length_nil, List.replicate, List.cons_append, List.nil_append, List.getElem?_cons_zero, List.getElem?_cons_succ, List.set_cons_zero, List.set_cons_succ, M.bind_assoc, if_true, zl, Nat.reduceAdd, Nat.reduceLeDiff, add_t (xs.take k.toNat) [y] (by simp; omega), hsl, add_i]
  rw [add_t _ _ (by rw [List.length_append, l2]; simp; omega)]
  try simp only [runB, startE, sSeq, sIf, sRet, sSet, sPar, sNil, sDrop, eBin, eUn, eC, eVar, eAnd, eOr, eNot, notD, eF, eCL, L1, L1N, nCL, aCons, aNil, eTup, nLst, eN, tV, tTru, asB, tru, tOrM, tAndM, tNotM, eIf, eSl, pSome, pNo, nUn, M.ret_bind, List.map_cons, List.map_nil, List.length_cons, List.length_nil, List.replicate, List.cons_append, List.nil_append, List.getElem?_cons_zero, List.getElem?_cons_succ, List.set_cons_zero, List.set_cons_succ, M.bind_assoc, if_true, zl, Nat.reduceAdd, Nat.reduceLeDiff]
  refine Gen.ret ⟨_, rfl, ?_⟩
  have P := Pc.of g
  have p1 := P.sub (b := xs.take k.toNat) tkS
  have p3 := P.sub (b := xs.drop (k.toNat + 1)) dpS
  have hd : x.dep ≤ D.depL xs := depL_iff.mp (Nat.le_refl _) x hx
  have hw1 := wL_split xs k.toNat
  rw [drop_at exn] at hw1
  simp only [D.wL] at hw1
  have q1 : Pc (a + 1) (D.depL xs + 4) (D.wL (xs.take k.toNat)) k.toNat (xs.take k.toNat) := p1.mono
  have q2 : Pc (a + 1) (D.depL xs + 4) (2 * D.w x + 1000 + 2) 1 [y] := (Pc.one ty).mono
  have q3 : Pc (a + 1) (D.depL xs + 4) (D.wL (xs.drop (k.toNat + 1))) (xs.length - (k.toNat + 1)) (xs.drop (k.toNat + 1)) := p3.mono (h4 := by omega)
  have T := ((q1.app q2).app q3).tup (by omega)
  refine T.mono (h2 := ?_) (h3 := ?_)
  · show D.depL xs + 4 + 1 ≤ D.depL xs + 1 + 4; omega
  · show _ ≤ 2 * (D.wL xs + 3) + 1000; omega
/-- the changes at a place of a tuple -/
theorem Pc.mid {n k l : Nat} {a : List D} (p : Pc n k (D.wL a) l a) (i : Nat) : Pc n k (D.wL a) 1 ((a.drop i).take 1) := by
  refine ⟨fun x hx => p.g x (dpS x (tkS x hx)), fun x hx => p.k x (dpS x (tkS x hx)), ?_, by rw [List.length_take]; omega⟩
  have h1 := wL_split a i
  have h2 := wL_split (a.drop i) 1
  omega
def bentB : SM := (sSeq (sSet 4 (eF 2 M__law_draw (aCons (eVar 0) (aCons (eBin addM (eCL (L1 lenM) (aCons (eVar 1) aNil)) (eC (.int 1))) aNil)))) (sSeq (sIf (tV (eBin eqM (eVar 2) (eC (.int 0)))) (sRet (eN (nCL (L1N listN) (aCons (eVar 1) aNil)))) sNil) (sSeq (sIf (tV (eBin eqM (eVar 2) (eC (.int 1)))) (sRet (eBin addM (eSl (eVar 1) pNo (pSome (eVar 4))) (eSl (eVar 1) (pSome (eBin addM (eVar 4) (eC (.int 1)))) pNo))) sNil) (sSeq (sIf (tV (eBin eqM (eVar 2) (eC (.int 2)))) (sRet (eBin addM (eBin addM (eSl (eVar 1) pNo (pSome (eVar 4))) (eSl (eVar 1) (pSome (eVar 4)) (pSome (eBin addM (eVar 4) (eC (.int 1)))))) (eSl (eVar 1) (pSome (eVar 4)) pNo))) sNil) (sRet (eIf (tV (eBin ltM (eVar 2) (eC (.int 5)))) (eBin addM (eBin addM (eSl (eVar 1) pNo (pSome (eVar 4))) (eTup (aCons (eVar 3) aNil))) (eSl (eVar 1) (pSome (eVar 4)) pNo)) (eUn revM (eVar 1))))))))
theorem gen_bentB {a : Nat} {xs : List D} {s : D} {lot : Int} {z4 : Sl} (ha : a ≤ 10) (g : D.g a (.tup xs) = true) (hs : Ty 0 4 700 s) :
    Gen (bentB [.v (.obj 0), .v (.tup xs), .v (.int lot), .v s, z4]) fun c => ∃ d, c = .rt d ∧ Ty (a + 1) ((D.tup xs).dep + 4) (2 * D.w (.tup xs) + 1000) d := by
  have hlen : xs.length ≤ 10 + a := by
    simp only [D.g, Bool.and_eq_true, decide_eq_true_eq] at g
    exact g.1
  have P := Pc.of g
  have hdp : (D.tup xs).dep = D.depL xs + 1 := rfl
  have hww : D.w (.tup xs) = D.wL xs + 3 := rfl
  unfold bentB
  try simp only [runB, startE, sSeq, sIf, sRet, sSet, sPar, sNil, sDrop, eBin, eUn, eC, eVar, eAnd, eOr, eNot, notD, eF, eCL, L1, L1N, nCL, aCons, aNil, eTup, nLst, eN, tV, tTru, asB, tru, tOrM, tAndM, tNotM, eIf, eSl, pSome, pNo, nUn, M.ret_bind, List.map_cons, List.map_nil, List.length_cons, List.length_nil, List.replicate, List.cons_append, List.nil_append, List.getElem?_cons_zero, List.getElem?_cons_succ, List.set_cons_zero, List.set_cons_succ, M.bind_assoc, if_true, zl, Nat.reduceAdd, Nat.reduceLeDiff, len_t, add_i]
  refine Gen.bind (gen_draw _ (by omega) (by omega)) fun d ⟨k, e, k0, k1⟩ => ?_
  subst e
  have hsplit := wL_split xs k.toNat
  have l1 : (xs.take k.toNat).length ≤ xs.length := by rw [List.length_take]; omega
  have l2 : (xs.drop k.toNat).length = xs.length - k.toNat := List.length_drop
  have l1' : (xs.take k.toNat).length ≤ k.toNat := by rw [List.length_take]; omega
  have p1 := P.sub (b := xs.take k.toNat) tkS
  have p2 : Pc a (D.depL xs) (D.wL (xs.drop k.toNat)) (xs.length - k.toNat) (xs.drop k.toNat) := (P.sub (b := xs.drop k.toNat) dpS).mono (h4 := by omega)
  have p1 : Pc a (D.depL xs) (D.wL (xs.take k.toNat)) k.toNat (xs.take k.toNat) := p1.mono (h4 := by omega)
  try simp only [runB, startE, sSeq, sIf, sRet, sSet, sPar, sNil, sDrop, eBin, eUn, eC, eVar, eAnd, eOr, eNot, notD, eF, eCL, L1, L1N, nCL, aCons, aNil, eTup, nLst, eN, tV, tTru, asB, tru, tOrM, tAndM, tNotM, eIf, eSl, pSome, pNo, nUn, M.ret_bind, List.map_cons, List.map_nil, List.length_cons, List.length_nil, List.replicate, List.cons_append, List.nil_append, List.getElem?_cons_zero, List.getElem?_cons_succ, List.set_cons_zero, List.set_cons_succ, M.bind_assoc, if_true, zl, Nat.reduceAdd, Nat.reduceLeDiff, eq_i]
  cases q0 : lot == 0 with
  | true =>
    try simp only [runB, startE, sSeq, sIf, sRet, sSet, sPar, sNil, sDrop, eBin, eUn, eC, eVar, eAnd, eOr, eNot, notD, eF, eCL, L1, L1N, nCL, aCons, aNil, eTup, nLst, eN, tV, tTru, asB, tru, tOrM, tAndM, tNotM, eIf, eSl, pSome, pNo, nUn, M.ret_bind, List.map_cons, List.map_nil, List.length_cons, List.length_nil, List.replicate, List.cons_append, List.nil_append, List.getElem?_cons_zero, List.getElem?_cons_succ, List.set_cons_zero, List.set_cons_succ, M.bind_assoc, if_true, zl, Nat.reduceAdd, Nat.reduceLeDiff, listN]
    refine Gen.ret ⟨_, rfl, ?_⟩
    have T := (P.mono (n' := a + 1) (k' := D.depL xs) (W' := D.wL xs) (l' := xs.length)).lst (by omega)
    exact T.mono (h2 := by omega) (h3 := by omega)
  | false =>
  try simp only [runB, startE, sSeq, sIf, sRet, sSet, sPar, sNil, sDrop, eBin, eUn, eC, eVar, eAnd, eOr, eNot, notD, eF, eCL, L1, L1N, nCL, aCons, aNil, eTup, nLst, eN, tV, tTru, asB, tru, tOrM, tAndM, tNotM, eIf, eSl, pSome, pNo, nUn, M.ret_bind, List.map_cons, List.map_nil, List.length_cons, List.length_nil, List.replicate, List.cons_append, List.nil_append, List.getElem?_cons_zero, List.getElem?_cons_succ, List.set_cons_zero, List.set_cons_succ, M.bind_assoc, if_true, zl, Nat.reduceAdd, Nat.reduceLeDiff, eq_i]
  cases q1 : lot == 1 with
  | true =>
    have hsl : sliceM (some (k + 1)) none (.tup xs) = .ret (.tup (xs.drop (k.toNat + 1))) := by
      rw [sl_from xs (k + 1) (by omega)]
      congr 3
      omega
    have l3 : (xs.drop (k.toNat + 1)).length = xs.length - (k.toNat + 1) := List.length_drop
    have p3 : Pc a (D.depL xs) (D.wL (xs.drop (k.toNat + 1))) (xs.length - (k.toNat + 1)) (xs.drop (k.toNat + 1)) := (P.sub (b := xs.drop (k.toNat + 1)) dpS).mono (h4 := by omega)
    have hw3 : D.wL (xs.drop (k.toNat + 1)) ≤ D.wL (xs.drop k.toNat) := by
      have := wL_split (xs.drop k.toNat) 1
      rw [List.drop_drop] at this
      omega
    try simp only [runB, startE, sSeq, sIf, sRet, sSet, sPar, sNil, sDrop, eBin, eUn, eC, eVar, eAnd, eOr, eNot, notD, eF, eCL, L1, L1N, nCL, aCons, aNil, eTup, nLst, eN, tV, tTru, asB, tru, tOrM, tAndM, tNotM, eIf, eSl, pSome, pNo, nUn, M.ret_bind, List.map_cons, List.map_nil, List.length_cons, List.length_nil, List.replicate, List.cons_append, List.nil_append, List.getElem?_cons_zero, List.getElem?_cons_succ, List.set_cons_zero, List.set_cons_succ, M.bind_assoc, if_true, zl, Nat.reduceAdd, Nat.reduceLeDiff, sl_to xs k k0, hsl, add_i]
    rw [add_t _ _ (by omega)]
    try simp only [runB, startE, sSeq, sIf, sRet, sSet, sPar, sNil, sDrop, eBin, eUn, eC, eVar, eAnd, eOr, eNot, notD, eF, eCL, L1, L1N, nCL, aCons, aNil, eTup, nLst, eN, tV, tTru, asB, tru, tOrM, tAndM, tNotM, eIf, eSl, pSome, pNo, nUn, M.ret_bind, List.map_cons, List.map_nil, List.length_cons, List.length_nil, List.replicate, List.cons_append, List.nil_append, List.getElem?_cons_zero, List.getElem?_cons_succ, List.set_cons_zero, List.set_cons_succ, M.bind_assoc, if_true, zl, Nat.reduceAdd, Nat.reduceLeDiff]
    refine Gen.ret ⟨_, rfl, ?_⟩
    have T := ((p1.app p3).mono (n' := a + 1) (k' := D.depL xs) (W' := D.wL xs) (l' := xs.length)).tup (by omega)
    exact T.mono (h2 := by omega) (h3 := by omega)
  | false =>
  try simp only [runB, startE, sSeq, sIf, sRet, sSet, sPar, sNil, sDrop, eBin, eUn, eC, eVar, eAnd, eOr, eNot, notD, eF, eCL, L1, L1N, nCL, aCons, aNil, eTup, nLst, eN, tV, tTru, asB, tru, tOrM, tAndM, tNotM, eIf, eSl, pSome, pNo, nUn, M.ret_bind, List.map_cons, List.map_nil, List.length_cons, List.length_nil, List.replicate, List.cons_append, List.nil_append, List.getElem?_cons_zero, List.getElem?_cons_succ, List.set_cons_zero, List.set_cons_succ, M.bind_assoc, if_true, zl, Nat.reduceAdd, Nat.reduceLeDiff, eq_i]
  cases q2 : lot == 2 with
  | true =>
    have l3 : ((xs.drop k.toNat).take 1).length ≤ 1 := by rw [List.length_take]; omega
    have p3 := Pc.mid P k.toNat
    try simp only [runB, startE, sSeq, sIf, sRet, sSet, sPar, sNil, sDrop, eBin, eUn, eC, eVar, eAnd, eOr, eNot, notD, eF, eCL, L1, L1N, nCL, aCons, aNil, eTup, nLst, eN, tV, tTru, asB, tru, tOrM, tAndM, tNotM, eIf, eSl, pSome, pNo, nUn, M.ret_bind, List.map_cons, List.map_nil, List.length_cons, List.length_nil, List.replicate, List.cons_append, List.nil_append, List.getElem?_cons_zero, List.getElem?_cons_succ, List.set_cons_zero, List.set_cons_succ, M.bind_assoc, if_true, zl, Nat.reduceAdd, Nat.reduceLeDiff, sl_to xs k k0, sl_mid xs k k0 (by omega), sl_from xs k k0, add_i]
    rw [add_t _ _ (by omega)]
    try simp only [runB, startE, sSeq, sIf, sRet, sSet, sPar, sNil, sDrop, eBin, eUn, eC, eVar, eAnd, eOr, eNot, notD, eF, eCL, L1, L1N, nCL, aCons, aNil, eTup, nLst, eN, tV, tTru, asB, tru, tOrM, tAndM, tNotM, eIf, eSl, pSome, pNo, nUn, M.ret_bind, List.map_cons, List.map_nil, List.length_cons, List.length_nil, List.replicate, List.cons_append, List.nil_append, List.getElem?_cons_zero, List.getElem?_cons_succ, List.set_cons_zero, List.set_cons_succ, M.bind_assoc, if_true, zl, Nat.reduceAdd, Nat.reduceLeDiff]
    rw [add_t _ _ (by rw [List.length_append]; omega)]
    try simp only [runB, startE, sSeq, sIf, sRet, sSet, sPar, sNil, sDrop, eBin, eUn, eC, eVar, eAnd, eOr, eNot, notD, eF, eCL, L1, L1N, nCL, aCons, aNil, eTup, nLst, eN, tV, tTru, asB, tru, tOrM, tAndM, tNotM, eIf, eSl, pSome, pNo, nUn, M.ret_bind, List.map_cons, List.map_nil, List.length_cons, List.length_nil, List.replicate, List.cons_append, List.nil_append, List.getElem?_cons_zero, List.getElem?_cons_succ, List.set_cons_zero, List.set_cons_succ, M.bind_assoc, if_true, zl, Nat.reduceAdd, Nat.reduceLeDiff]
    refine Gen.ret ⟨_, rfl, ?_⟩
    have T := (((p1.app p3).app p2).mono (n' := a + 1) (k' := D.depL xs) (W' := 2 * D.wL xs) (l' := xs.length + 1)).tup (by omega)
    exact T.mono (h2 := by omega) (h3 := by omega)
  | false =>
  try simp only [runB, startE, sSeq, sIf, sRet, sSet, sPar, sNil, sDrop, eBin, eUn, eC, eVar, eAnd, eOr, eNot, notD, eF, eCL, L1, L1N, nCL, aCons, aNil, eTup, nLst, eN, tV, tTru, asB, tru, tOrM, tAndM, tNotM, eIf, eSl, pSome, pNo, nUn, M.ret_bind, List.map_cons, List.map_nil, List.length_cons, List.length_nil, List.replicate, List.cons_append, List.nil_append, List.getElem?_cons_zero, List.getElem?_cons_succ, List.set_cons_zero, List.set_cons_succ, M.bind_assoc, if_true, zl, Nat.reduceAdd, Nat.reduceLeDiff, eq_i, lt_c]
  cases q3 : decide (lot < 5) with
  | true =>
    try simp only [runB, startE, sSeq, sIf, sRet, sSet, sPar, sNil, sDrop, eBin, eUn, eC, eVar, eAnd, eOr, eNot, notD, eF, eCL, L1, L1N, nCL, aCons, aNil, eTup, nLst, eN, tV, tTru, asB, tru, tOrM, tAndM, tNotM, eIf, eSl, pSome, pNo, nUn, M.ret_bind, List.map_cons, List.map_nil, List.length_cons, List.length_nil, List.replicate, List.cons_append, List.nil_append, List.getElem?_cons_zero, List.getElem?_cons_succ, List.set_cons_zero, List.set_cons_succ, M.bind_assoc, if_true, zl, Nat.reduceAdd, Nat.reduceLeDiff, sl_to xs k k0, sl_from xs k k0]
    rw [add_t _ _ (by simp; omega)]
    try simp only [runB, startE, sSeq, sIf, sRet, sSet, sPar, sNil, sDrop, eBin, eUn, eC, eVar, eAnd, eOr, eNot, notD, eF, eCL, L1, L1N, nCL, aCons, aNil, eTup, nLst, eN, tV, tTru, asB, tru, tOrM, tAndM, tNotM, eIf, eSl, pSome, pNo, nUn, M.ret_bind, List.map_cons, List.map_nil, List.length_cons, List.length_nil, List.replicate, List.cons_append, List.nil_append, List.getElem?_cons_zero, List.getElem?_cons_succ, List.set_cons_zero, List.set_cons_succ, M.bind_assoc, if_true, zl, Nat.reduceAdd, Nat.reduceLeDiff]
    rw [add_t _ _ (by rw [List.length_append]; simp; omega)]
    try simp only [runB, startE, sSeq, sIf, sRet, sSet, sPar, sNil, sDrop, eBin, eUn, eC, eVar, eAnd, eOr, eNot, notD, eF, eCL, L1, L1N, nCL, aCons, aNil, eTup, nLst, eN, tV, tTru, asB, tru, tOrM, tAndM, tNotM, eIf, eSl, pSome, pNo, nUn, M.ret_bind, List.map_cons, List.map_nil, List.length_cons, List.length_nil, List.replicate, List.cons_append, List.nil_append, List.getElem?_cons_zero, List.getElem?_cons_succ, List.set_cons_zero, List.set_cons_succ, M.bind_assoc, if_true, zl, Nat.reduceAdd, Nat.reduceLeDiff]
    refine Gen.ret ⟨_, rfl, ?_⟩
    have ps := Pc.one (hs.mono (n' := a + 1) (k' := D.depL xs + 4) (W' := 700))
    have p1' : Pc (a + 1) (D.depL xs + 4) (D.wL (xs.take k.toNat)) k.toNat (xs.take k.toNat) := p1.mono
    have p2' : Pc (a + 1) (D.depL xs + 4) (D.wL (xs.drop k.toNat)) (xs.length - k.toNat) (xs.drop k.toNat) := p2.mono
    have T := (((p1'.app ps).app p2').mono (n' := a + 1) (k' := D.depL xs + 4) (W' := D.wL xs + 702) (l' := xs.length + 1)).tup (by omega)
    exact T.mono (h2 := by omega) (h3 := by omega)
  | false =>
    show Gen (M.ret (Ctl.rt (D.tup xs.reverse))) _
    refine Gen.ret ⟨_, rfl, ?_⟩
    have pr : Pc a (D.depL xs) (D.wL xs) xs.length xs.reverse := ⟨fun x hx => P.g x (List.mem_reverse.mp hx), fun x hx => P.k x (List.mem_reverse.mp hx), by rw [wL_rev]; exact Nat.le_refl _, by rw [List.length_reverse]; exact Nat.le_refl _⟩
    have T := (pr.mono (n' := a + 1) (k' := D.depL xs) (W' := D.wL xs) (l' := xs.length)).tup (by omega)
    exact T.mono (h2 := by omega) (h3 := by omega)
def bentC : SM := (sSeq (sSet 4 (eF 2 M__law_draw (aCons (eVar 0) (aCons (eBin addM (eCL (L1 lenM) (aCons (eVar 1) aNil)) (eC (.int 1))) aNil)))) (sRet (eBin addM (eBin addM (eSl (eVar 1) pNo (pSome (eVar 4))) (eF 2 M__law_pick (aCons (eVar 0) (aCons (eN (nLst (aCons (eC (.str "a")) (aCons (eC (.str "A")) (aCons (eC (.str "")) (aCons (eC (.str " ")) (aCons (eC (.str "z")) (aCons (eC (.str "0")) (aCons (eC (.str "-")) aNil))))))))) aNil)))) (eSl (eVar 1) (pSome (eBin addM (eVar 4) (eCL (L1 intM) (aCons (eBin gtM (eVar 2) (eC (.int 2))) aNil)))) pNo))))
theorem add_s (a b : Str) (h : a.length + b.length ≤ 1000) : addM (.str a) (.str b) = .ret (.str (a ++ b)) := if_pos (sz1000 h)
theorem sls_to (z : Str) (k : Int) (h : 0 ≤ k) (hz : z.length ≤ 1000) : sliceM none (some k) (.str z) = .ret (.str ⟨(z.cps.toList.take k.toNat).toArray⟩) := by
  show (if z.length ≤ sizeLine then M.ret (D.str (cutS z none (some k))) else .bad) = _
  rw [if_pos (sz1000 hz), cutS_to z k h]
theorem sls_from (z : Str) (k : Int) (h : 0 ≤ k) (hz : z.length ≤ 1000) : sliceM (some k) none (.str z) = .ret (.str ⟨(z.cps.toList.drop k.toNat).toArray⟩) := by
  show (if z.length ≤ sizeLine then M.ret (D.str (cutS z (some k) none)) else .bad) = _
  rw [if_pos (sz1000 hz), cutS_from z k h]
theorem len_s (z : Str) (hz : z.length ≤ 1000) : lenM (.str z) = .ret (.int z.length) := if_pos (sz1000 hz)
theorem gen_bentC {a : Nat} {z : Str} {s : Sl} {lot : Int} {z4 : Sl} (ha : a ≤ 10) (g : D.g a (.str z) = true) :
    Gen (bentC [.v (.obj 0), .v (.str z), .v (.int lot), s, z4]) fun c => ∃ d, c = .rt d ∧ Ty (a + 1) ((D.str z).dep + 4) (2 * D.w (.str z) + 1000) d := by
  simp only [D.g, Bool.and_eq_true, decide_eq_true_eq] at g
  obtain ⟨gs, gl⟩ := g
  have hz : z.length ≤ 1000 := by omega
  have hc := len_cps z
  unfold bentC
  try simp only [runB, startE, sSeq, sIf, sRet, sSet, sPar, sNil, sDrop, eBin, eUn, eC, eVar, eAnd, eOr, eNot, notD, eF, eCL, L1, L1N, nCL, aCons, aNil, eTup, nLst, eN, tV, tTru, asB, tru, tOrM, tAndM, tNotM, eIf, eSl, pSome, pNo, nUn, M.ret_bind, List.map_cons, List.map_nil, List.length_cons, List.length_nil, List.replicate, List.cons_append, List.nil_append, List.getElem?_cons_zero, List.getElem?_cons_succ, List.set_cons_zero, List.set_cons_succ, M.bind_assoc, if_true, zl, Nat.reduceAdd, Nat.reduceLeDiff, len_s z hz, add_i]
  refine Gen.bind (gen_draw _ (by omega) (by omega)) fun d ⟨k, e, k0, k1⟩ => ?_
  subst e
  try simp only [runB, startE, sSeq, sIf, sRet, sSet, sPar, sNil, sDrop, eBin, eUn, eC, eVar, eAnd, eOr, eNot, notD, eF, eCL, L1, L1N, nCL, aCons, aNil, eTup, nLst, eN, tV, tTru, asB, tru, tOrM, tAndM, tNotM, eIf, eSl, pSome, pNo, nUn, M.ret_bind, List.map_cons, List.map_nil, List.length_cons, List.length_nil, List.replicate, List.cons_append, List.nil_append, List.getElem?_cons_zero, List.getElem?_cons_succ, List.set_cons_zero, List.set_cons_succ, M.bind_assoc, if_true, zl, Nat.reduceAdd, Nat.reduceLeDiff, sls_to z k k0 hz]
  refine Gen.bind (gen_pick _ (by simp) (by simp)) fun d hd => ?_
  obtain ⟨m, rfl, hm⟩ : ∃ m : Str, d = .str m ∧ (PyData.strOk m && decide (m.length ≤ 1)) = true := by
    simp only [List.mem_cons, List.not_mem_nil, or_false] at hd
    rcases hd with e | e | e | e | e | e | e <;> exact ⟨_, e, by decide +kernel⟩
  simp only [Bool.and_eq_true, decide_eq_true_eq] at hm
  have l1 : (⟨(z.cps.toList.take k.toNat).toArray⟩ : Str).length ≤ k.toNat := by rw [len_cps, List.toList_toArray, List.length_take]; omega
  try simp only [runB, startE, sSeq, sIf, sRet, sSet, sPar, sNil, sDrop, eBin, eUn, eC, eVar, eAnd, eOr, eNot, notD, eF, eCL, L1, L1N, nCL, aCons, aNil, eTup, nLst, eN, tV, tTru, asB, tru, tOrM, tAndM, tNotM, eIf, eSl, pSome, pNo, nUn, M.ret_bind, List.map_cons, List.map_nil, List.length_cons, List.length_nil, List.replicate, List.cons_append, List.nil_append, List.getElem?_cons_zero, List.getElem?_cons_succ, List.set_cons_zero, List.set_cons_succ, M.bind_assoc, if_true, zl, Nat.reduceAdd, Nat.reduceLeDiff, add_s _ _ (show (⟨(z.cps.toList.take k.toNat).toArray⟩ : Str).length + m.length ≤ 1000 by omega), gt_i, intM]
  obtain ⟨j, hj, hj1⟩ : ∃ j : Int, (if decide ((2 : Int) < lot) = true then (1 : Int) else 0) = j ∧ 0 ≤ j := ⟨_, rfl, by split <;> omega⟩
  try simp only [hj]
  try simp only [runB, startE, sSeq, sIf, sRet, sSet, sPar, sNil, sDrop, eBin, eUn, eC, eVar, eAnd, eOr, eNot, notD, eF, eCL, L1, L1N, nCL, aCons, aNil, eTup, nLst, eN, tV, tTru, asB, tru, tOrM, tAndM, tNotM, eIf, eSl, pSome, pNo, nUn, M.ret_bind, List.map_cons, List.map_nil, List.length_cons, List.length_nil, List.replicate, List.cons_append, List.nil_append, List.getElem?_cons_zero, List.getElem?_cons_succ, List.set_cons_zero, List.set_cons_succ, M.bind_assoc, if_true, zl, Nat.reduceAdd, Nat.reduceLeDiff, add_i, sls_from z (k + j) (by omega) hz]
  have l2 : (⟨(z.cps.toList.drop (k + j).toNat).toArray⟩ : Str).length ≤ z.length - k.toNat := by rw [len_cps, List.toList_toArray, List.length_drop]; omega
  have l3 : ((⟨(z.cps.toList.take k.toNat).toArray⟩ : Str) ++ m).length = (⟨(z.cps.toList.take k.toNat).toArray⟩ : Str).length + m.length := strLen_append _ _
  rw [add_s _ _ (by omega)]
  try simp only [runB, startE, sSeq, sIf, sRet, sSet, sPar, sNil, sDrop, eBin, eUn, eC, eVar, eAnd, eOr, eNot, notD, eF, eCL, L1, L1N, nCL, aCons, aNil, eTup, nLst, eN, tV, tTru, asB, tru, tOrM, tAndM, tNotM, eIf, eSl, pSome, pNo, nUn, M.ret_bind, List.map_cons, List.map_nil, List.length_cons, List.length_nil, List.replicate, List.cons_append, List.nil_append, List.getElem?_cons_zero, List.getElem?_cons_succ, List.set_cons_zero, List.set_cons_succ, M.bind_assoc, if_true, zl, Nat.reduceAdd, Nat.reduceLeDiff]
  refine Gen.ret ⟨_, rfl, ?_⟩
  have l4 : (((⟨(z.cps.toList.take k.toNat).toArray⟩ : Str) ++ m) ++ (⟨(z.cps.toList.drop (k + j).toNat).toArray⟩ : Str)).length ≤ z.length + 1 := by
    rw [strLen_append, l3]; omega
  refine ⟨?_, ?_, ?_⟩
  · simp only [D.g, Bool.and_eq_true, decide_eq_true_eq]
    refine ⟨(strOk_iff _).mpr fun c hc => ?_, by omega⟩
    have gz := (strOk_iff z).mp gs
    have gm := (strOk_iff m).mp hm.1
    rw [app_cps, app_cps] at hc
    rcases List.mem_append.mp hc with hc | hc
    · rcases List.mem_append.mp hc with hc | hc
      · exact gz c (List.mem_of_mem_take hc)
      · exact gm c hc
    · exact gz c (List.mem_of_mem_drop hc)
  · exact Nat.zero_le _
  · show 10 * _ + 2 ≤ 2 * (10 * z.length + 2) + 1000
    omega
end G
namespace G
open PySem PySem.Spec PyProof.Rows L2 F
theorem chr_lt (c : Char) : c.toNat < 0x110000 := by
  have h := c.valid
  rcases h with h | ⟨_, h⟩
  · exact Nat.lt_trans h (by decide)
  · exact h
theorem ofs_lt (x : String) : PyData.strOk (Str.ofString x) = true := by
  rw [strOk_iff]
  intro c hc
  rw [Str.ofString_eq_toList] at hc
  have hc : c ∈ (x.toList.map Char.toNat) := by simpa using hc
  obtain ⟨ch, _, rfl⟩ := List.mem_map.mp hc
  exact chr_lt ch
def bentD : SM := (sRet (eBin idxM (eN (nLst (aCons (eBin addM (eVar 1) (eC (.int 1))) (aCons (eBin subM (eVar 1) (eC (.int 1))) (aCons (eUn negM (eVar 1)) (aCons (eBin eqM (eVar 1) (eC (.int 1))) (aCons (eCL (L1 strM) (aCons (eVar 1) aNil)) aNil))))))) (eVar 2)))
def bentR : SM := (sSeq (sPar 2 3 (aCons (eF 2 M__law_draw (aCons (eVar 0) (aCons (eC (.int 7)) aNil))) (aCons (eF 1 M__law_strange (aCons (eVar 0) aNil)) aNil))) (sSeq (sIf (tAndM (tTru (eUn (isiM "tuple") (eVar 1))) (tV (eBin ltM (eVar 2) (eC (.int 6))))) bentB sNil) (sSeq (sIf (tAndM (tTru (eUn (isiM "str") (eVar 1))) (tV (eBin ltM (eVar 2) (eC (.int 5))))) bentC sNil) (sSeq (sIf (tAndM (tTru (eF 1 M__law_is_number (aCons (eVar 1) aNil))) (tV (eBin ltM (eVar 2) (eC (.int 5))))) bentD sNil) (sRet (eVar 3))))))
theorem bent_eq (rec : List D → M D) : b__law_bent rec = sSeq (sIf (tAndM (tTru (eUn (isiM "tuple") (eVar 1))) (tAndM (tV (eBin gtM (eCL (L1 lenM) (aCons (eVar 1) aNil)) (eC (.int 0)))) (tV (eBin gtM (eF 2 M__law_draw (aCons (eVar 0) (aCons (eC (.int 5)) aNil))) (eC (.int 0)))))) (bentA rec) sNil) bentR := rfl
theorem gen_bentD {a : Nat} {i : Int} {s : Sl} {lot : Int} {z4 : Sl} (ha : a ≤ 10) (g : D.g a (.int i) = true) (l0 : 0 ≤ lot) (l1 : lot < 5) :
    Gen (bentD [.v (.obj 0), .v (.int i), .v (.int lot), s, z4]) fun c => ∃ d, c = .rt d ∧ Ty (a + 1) 4 1000 d := by
  have gi : i.natAbs ≤ 10 ^ 59 + a := by simpa [D.g] using g
  have big : (10 : Nat) ^ 59 + 10 < 10 ^ 60 := by decide
  have hs : strM (.int i) = .ret (.str (toString i)) := if_pos (by
    by_cases h0 : i.natAbs = 0
    · rw [h0]; decide
    · exact Nat.lt_of_lt_of_le ((Nat.log2_lt h0 (k := 256)).mpr (Nat.lt_of_lt_of_le (show i.natAbs < 10 ^ 60 by omega) (by decide))) (by decide))
  have hz : (toString i).length ≤ 61 := int_text_length_le10 (by decide) (show i.natAbs < 10 ^ 60 by omega)
  have hl : (Str.ofString (toString i)).length ≤ 61 := by rw [PySem.ofString_length]; exact hz
  unfold bentD
  try simp only [runB, startE, sSeq, sIf, sRet, sSet, sPar, sNil, sDrop, eBin, eUn, eC, eVar, eAnd, eOr, eNot, notD, eF, eCL, L1, L1N, nCL, aCons, aNil, eTup, nLst, eN, tV, tTru, asB, tru, tOrM, tAndM, tNotM, eIf, eSl, pSome, pNo, nUn, M.ret_bind, List.map_cons, List.map_nil, List.length_cons, List.length_nil, List.replicate, List.cons_append, List.nil_append, List.getElem?_cons_zero, List.getElem?_cons_succ, List.set_cons_zero, List.set_cons_succ, M.bind_assoc, if_true, zl, Nat.reduceAdd, Nat.reduceLeDiff, add_i, sub_i, negM, eq_i, hs]
  have iT : ∀ j : Int, j.natAbs ≤ i.natAbs + 1 → Ty (a + 1) 4 1000 (.int j) := fun j hj => ⟨by simp only [D.g, decide_eq_true_eq]; omega, Nat.zero_le _, by show 64 ≤ 1000; decide⟩
  have : ∃ d, idxM (.lst [.int (i + 1), .int (i - 1), .int (-i), .bl (i == 1), .str (toString i)]) (.int lot) = .ret d ∧ Ty (a + 1) 4 1000 d := by
    have : lot = 0 ∨ lot = 1 ∨ lot = 2 ∨ lot = 3 ∨ lot = 4 := by omega
    rcases this with e | e | e | e | e <;> subst e
    · exact ⟨_, rfl, iT _ (by omega)⟩
    · exact ⟨_, rfl, iT _ (by omega)⟩
    · exact ⟨_, rfl, iT _ (by omega)⟩
    · exact ⟨_, rfl, rfl, Nat.zero_le _, by show 5 ≤ 1000; decide⟩
    · refine ⟨_, rfl, ?_, Nat.zero_le _, by show 10 * (Str.ofString (toString i)).length + 2 ≤ 1000; omega⟩
      simp only [D.g, Bool.and_eq_true, decide_eq_true_eq]
      exact ⟨ofs_lt _, by omega⟩
  obtain ⟨d, e, t⟩ := this
  rw [e]
  exact Gen.ret ⟨d, rfl, t⟩
theorem gen_bentR {d : D} {a : Nat} {z2 z3 z4 : Sl} (ha : a ≤ 10) (g : D.g a d = true) : Gen (bentR [.v (.obj 0), .v d, z2, z3, z4]) fun c => ∃ r, c = .rt r ∧ Ty (a + 1) (d.dep + 4) (2 * D.w d + 1000) r := by
  unfold bentR
  try simp only [runB, startE, sSeq, sIf, sRet, sSet, sPar, sNil, sDrop, eBin, eUn, eC, eVar, eAnd, eOr, eNot, notD, eF, eCL, L1, L1N, nCL, aCons, aNil, eTup, nLst, eN, tV, tTru, asB, tru, tOrM, tAndM, tNotM, eIf, eSl, pSome, pNo, nUn, M.ret_bind, List.map_cons, List.map_nil, List.length_cons, List.length_nil, List.replicate, List.cons_append, List.nil_append, List.getElem?_cons_zero, List.getElem?_cons_succ, List.set_cons_zero, List.set_cons_succ, M.bind_assoc, if_true, zl, Nat.reduceAdd, Nat.reduceLeDiff]
  refine Gen.bind (gen_draw 7 (by decide) (by decide)) fun x ⟨lot, e, l0, l1⟩ => ?_
  subst e
  try simp only [runB, startE, sSeq, sIf, sRet, sSet, sPar, sNil, sDrop, eBin, eUn, eC, eVar, eAnd, eOr, eNot, notD, eF, eCL, L1, L1N, nCL, aCons, aNil, eTup, nLst, eN, tV, tTru, asB, tru, tOrM, tAndM, tNotM, eIf, eSl, pSome, pNo, nUn, M.ret_bind, List.map_cons, List.map_nil, List.length_cons, List.length_nil, List.replicate, List.cons_append, List.nil_append, List.getElem?_cons_zero, List.getElem?_cons_succ, List.set_cons_zero, List.set_cons_succ, M.bind_assoc, if_true, zl, Nat.reduceAdd, Nat.reduceLeDiff]
  refine Gen.bind gen_strange fun s hs => ?_
  have hsT : ∀ k W, Ty (a + 1) (k + 4) (W + 1000) s := fun k W => hs.mono
  try simp only [runB, startE, sSeq, sIf, sRet, sSet, sPar, sNil, sDrop, eBin, eUn, eC, eVar, eAnd, eOr, eNot, notD, eF, eCL, L1, L1N, nCL, aCons, aNil, eTup, nLst, eN, tV, tTru, asB, tru, tOrM, tAndM, tNotM, eIf, eSl, pSome, pNo, nUn, M.ret_bind, List.map_cons, List.map_nil, List.length_cons, List.length_nil, List.replicate, List.cons_append, List.nil_append, List.getElem?_cons_zero, List.getElem?_cons_succ, List.set_cons_zero, List.set_cons_succ, M.bind_assoc, if_true, zl, Nat.reduceAdd, Nat.reduceLeDiff, lt_c]
  cases d with
  | tup xs =>
    try simp only [runB, startE, sSeq, sIf, sRet, sSet, sPar, sNil, sDrop, eBin, eUn, eC, eVar, eAnd, eOr, eNot, notD, eF, eCL, L1, L1N, nCL, aCons, aNil, eTup, nLst, eN, tV, tTru, asB, tru, tOrM, tAndM, tNotM, eIf, eSl, pSome, pNo, nUn, M.ret_bind, List.map_cons, List.map_nil, List.length_cons, List.length_nil, List.replicate, List.cons_append, List.nil_append, List.getElem?_cons_zero, List.getElem?_cons_succ, List.set_cons_zero, List.set_cons_succ, M.bind_assoc, if_true, zl, Nat.reduceAdd, Nat.reduceLeDiff, isi_ti]
    cases q : decide (lot < 6) with
    | true =>
      try simp only [runB, startE, sSeq, sIf, sRet, sSet, sPar, sNil, sDrop, eBin, eUn, eC, eVar, eAnd, eOr, eNot, notD, eF, eCL, L1, L1N, nCL, aCons, aNil, eTup, nLst, eN, tV, tTru, asB, tru, tOrM, tAndM, tNotM, eIf, eSl, pSome, pNo, nUn, M.ret_bind, List.map_cons, List.map_nil, List.length_cons, List.length_nil, List.replicate, List.cons_append, List.nil_append, List.getElem?_cons_zero, List.getElem?_cons_succ, List.set_cons_zero, List.set_cons_succ, M.bind_assoc, if_true, zl, Nat.reduceAdd, Nat.reduceLeDiff]
      refine Gen.bind (gen_bentB ha g hs) fun c ⟨r, e, t⟩ => ?_
      subst e
      exact Gen.ret ⟨r, rfl, t⟩
    | false =>
      have hn : M__law_is_number [.tup xs] = .ret (.bl false) := law_is_number_eq rfl
      have hi : isiM "str" (.tup xs) = .ret (.bl false) := rfl
      try simp only [runB, startE, sSeq, sIf, sRet, sSet, sPar, sNil, sDrop, eBin, eUn, eC, eVar, eAnd, eOr, eNot, notD, eF, eCL, L1, L1N, nCL, aCons, aNil, eTup, nLst, eN, tV, tTru, asB, tru, tOrM, tAndM, tNotM, eIf, eSl, pSome, pNo, nUn, M.ret_bind, List.map_cons, List.map_nil, List.length_cons, List.length_nil, List.replicate, List.cons_append, List.nil_append, List.getElem?_cons_zero, List.getElem?_cons_succ, List.set_cons_zero, List.set_cons_succ, M.bind_assoc, if_true, zl, Nat.reduceAdd, Nat.reduceLeDiff, hi, hn]
      exact Gen.ret ⟨s, rfl, hsT _ _⟩
  | str z =>
    have hi : isiM "tuple" (.str z) = .ret (.bl false) := rfl
    try simp only [runB, startE, sSeq, sIf, sRet, sSet, sPar, sNil, sDrop, eBin, eUn, eC, eVar, eAnd, eOr, eNot, notD, eF, eCL, L1, L1N, nCL, aCons, aNil, eTup, nLst, eN, tV, tTru, asB, tru, tOrM, tAndM, tNotM, eIf, eSl, pSome, pNo, nUn, M.ret_bind, List.map_cons, List.map_nil, List.length_cons, List.length_nil, List.replicate, List.cons_append, List.nil_append, List.getElem?_cons_zero, List.getElem?_cons_succ, List.set_cons_zero, List.set_cons_succ, M.bind_assoc, if_true, zl, Nat.reduceAdd, Nat.reduceLeDiff, isi_ss, hi, lt_c]
    cases q : decide (lot < 5) with
    | true =>
      try simp only [runB, startE, sSeq, sIf, sRet, sSet, sPar, sNil, sDrop, eBin, eUn, eC, eVar, eAnd, eOr, eNot, notD, eF, eCL, L1, L1N, nCL, aCons, aNil, eTup, nLst, eN, tV, tTru, asB, tru, tOrM, tAndM, tNotM, eIf, eSl, pSome, pNo, nUn, M.ret_bind, List.map_cons, List.map_nil, List.length_cons, List.length_nil, List.replicate, List.cons_append, List.nil_append, List.getElem?_cons_zero, List.getElem?_cons_succ, List.set_cons_zero, List.set_cons_succ, M.bind_assoc, if_true, zl, Nat.reduceAdd, Nat.reduceLeDiff]
      refine Gen.bind (gen_bentC ha g) fun c ⟨r, e, t⟩ => ?_
      subst e
      exact Gen.ret ⟨r, rfl, t⟩
    | false =>
      have hn : M__law_is_number [.str z] = .ret (.bl false) := law_is_number_eq rfl
      try simp only [runB, startE, sSeq, sIf, sRet, sSet, sPar, sNil, sDrop, eBin, eUn, eC, eVar, eAnd, eOr, eNot, notD, eF, eCL, L1, L1N, nCL, aCons, aNil, eTup, nLst, eN, tV, tTru, asB, tru, tOrM, tAndM, tNotM, eIf, eSl, pSome, pNo, nUn, M.ret_bind, List.map_cons, List.map_nil, List.length_cons, List.length_nil, List.replicate, List.cons_append, List.nil_append, List.getElem?_cons_zero, List.getElem?_cons_succ, List.set_cons_zero, List.set_cons_succ, M.bind_assoc, if_true, zl, Nat.reduceAdd, Nat.reduceLeDiff, hn]
      exact Gen.ret ⟨s, rfl, hsT _ _⟩
  | int i =>
    have hi : isiM "tuple" (.int i) = .ret (.bl false) := rfl
    have hi2 : isiM "str" (.int i) = .ret (.bl false) := rfl
    have hn : M__law_is_number [.int i] = .ret (.bl (decide (0 ≤ i))) := law_is_number_eq rfl
    try simp only [runB, startE, sSeq, sIf, sRet, sSet, sPar, sNil, sDrop, eBin, eUn, eC, eVar, eAnd, eOr, eNot, notD, eF, eCL, L1, L1N, nCL, aCons, aNil, eTup, nLst, eN, tV, tTru, asB, tru, tOrM, tAndM, tNotM, eIf, eSl, pSome, pNo, nUn, M.ret_bind, List.map_cons, List.map_nil, List.length_cons, List.length_nil, List.replicate, List.cons_append, List.nil_append, List.getElem?_cons_zero, List.getElem?_cons_succ, List.set_cons_zero, List.set_cons_succ, M.bind_assoc, if_true, zl, Nat.reduceAdd, Nat.reduceLeDiff, hi, hi2, hn, lt_c]
    cases q2 : decide (0 ≤ i) with
    | false =>
      try simp only [runB, startE, sSeq, sIf, sRet, sSet, sPar, sNil, sDrop, eBin, eUn, eC, eVar, eAnd, eOr, eNot, notD, eF, eCL, L1, L1N, nCL, aCons, aNil, eTup, nLst, eN, tV, tTru, asB, tru, tOrM, tAndM, tNotM, eIf, eSl, pSome, pNo, nUn, M.ret_bind, List.map_cons, List.map_nil, List.length_cons, List.length_nil, List.replicate, List.cons_append, List.nil_append, List.getElem?_cons_zero, List.getElem?_cons_succ, List.set_cons_zero, List.set_cons_succ, M.bind_assoc, if_true, zl, Nat.reduceAdd, Nat.reduceLeDiff]
      exact Gen.ret ⟨s, rfl, hsT _ _⟩
    | true =>
      try simp only [runB, startE, sSeq, sIf, sRet, sSet, sPar, sNil, sDrop, eBin, eUn, eC, eVar, eAnd, eOr, eNot, notD, eF, eCL, L1, L1N, nCL, aCons, aNil, eTup, nLst, eN, tV, tTru, asB, tru, tOrM, tAndM, tNotM, eIf, eSl, pSome, pNo, nUn, M.ret_bind, List.map_cons, List.map_nil, List.length_cons, List.length_nil, List.replicate, List.cons_append, List.nil_append, List.getElem?_cons_zero, List.getElem?_cons_succ, List.set_cons_zero, List.set_cons_succ, M.bind_assoc, if_true, zl, Nat.reduceAdd, Nat.reduceLeDiff, lt_c]
      cases q : decide (lot < 5) with
      | true =>
        try simp only [runB, startE, sSeq, sIf, sRet, sSet, sPar, sNil, sDrop, eBin, eUn, eC, eVar, eAnd, eOr, eNot, notD, eF, eCL, L1, L1N, nCL, aCons, aNil, eTup, nLst, eN, tV, tTru, asB, tru, tOrM, tAndM, tNotM, eIf, eSl, pSome, pNo, nUn, M.ret_bind, List.map_cons, List.map_nil, List.length_cons, List.length_nil, List.replicate, List.cons_append, List.nil_append, List.getElem?_cons_zero, List.getElem?_cons_succ, List.set_cons_zero, List.set_cons_succ, M.bind_assoc, if_true, zl, Nat.reduceAdd, Nat.reduceLeDiff]
        refine Gen.bind (gen_bentD ha g l0 (by simpa using q)) fun c ⟨r, e, t⟩ => ?_
        subst e
        exact Gen.ret ⟨r, rfl, t.mono⟩
      | false =>
        try simp only [runB, startE, sSeq, sIf, sRet, sSet, sPar, sNil, sDrop, eBin, eUn, eC, eVar, eAnd, eOr, eNot, notD, eF, eCL, L1, L1N, nCL, aCons, aNil, eTup, nLst, eN, tV, tTru, asB, tru, tOrM, tAndM, tNotM, eIf, eSl, pSome, pNo, nUn, M.ret_bind, List.map_cons, List.map_nil, List.length_cons, List.length_nil, List.replicate, List.cons_append, List.nil_append, List.getElem?_cons_zero, List.getElem?_cons_succ, List.set_cons_zero, List.set_cons_succ, M.bind_assoc, if_true, zl, Nat.reduceAdd, Nat.reduceLeDiff]
        exact Gen.ret ⟨s, rfl, hsT _ _⟩
  | dic _ => simp [D.g] at g
  | obj _ => simp [D.g] at g
  | scr _ => simp [D.g] at g
  | non => exact Gen.ret ⟨s, rfl, hsT _ _⟩
  | bl b => exact Gen.ret ⟨s, rfl, hsT _ _⟩
  | lst xs => exact Gen.ret ⟨s, rfl, hsT _ _⟩
theorem gen_bent : ∀ (n : Nat) (d : D) (a : Nat), a ≤ 10 → D.g a d = true → d.dep < n → Gen (M__law_bent n [.obj 0, d]) (Ty (a + 1) (d.dep + 4) (2 * D.w d + 1000))
  | 0, d, a, ha, g, h => absurd h (Nat.not_lt_zero _)
  | n + 1, d, a, ha, g, h => by
    have hR : ∀ {z2 z3 z4 : Sl}, Gen (bentR [.v (.obj 0), .v d, z2, z3, z4]) fun c => ∃ r, c = .rt r ∧ Ty (a + 1) (d.dep + 4) (2 * D.w d + 1000) r := gen_bentR ha g
    show Gen (runB 5 (b__law_bent (M__law_bent n)) [.obj 0, d]) _
    rw [bent_eq]
    have fin : ∀ m : M Ctl, Gen m (fun c => ∃ r, c = .rt r ∧ Ty (a + 1) (d.dep + 4) (2 * D.w d + 1000) r) → Gen (m >>= fun c => match c with
      | .rt d => .ret d
      | .nx _ => .ret .non
      | _ => .bad) (Ty (a + 1) (d.dep + 4) (2 * D.w d + 1000)) := fun m hm => Gen.bind hm fun c ⟨r, e, t⟩ => by subst e; exact Gen.ret t
    unfold runB
    refine fin _ ?_
    have skip : tupB d = false → Gen (sSeq (sIf (tAndM (tTru (eUn (isiM "tuple") (eVar 1))) (tAndM (tV (eBin gtM (eCL (L1 lenM) (aCons (eVar 1) aNil)) (eC (.int 0)))) (tV (eBin gtM (eF 2 M__law_draw (aCons (eVar 0) (aCons (eC (.int 5)) aNil))) (eC (.int 0)))))) (bentA (M__law_bent n)) sNil) bentR (startE 5 [.obj 0, d])) fun c => ∃ r, c = .rt r ∧ Ty (a + 1) (d.dep + 4) (2 * D.w d + 1000) r := fun ht => by
      have ho : d.ob = false := by cases d <;> first | rfl | (simp [D.g] at g)
      try simp only [runB, startE, sSeq, sIf, sRet, sSet, sPar, sNil, sDrop, eBin, eUn, eC, eVar, eAnd, eOr, eNot, notD, eF, eCL, L1, L1N, nCL, aCons, aNil, eTup, nLst, eN, tV, tTru, asB, tru, tOrM, tAndM, tNotM, eIf, eSl, pSome, pNo, nUn, M.ret_bind, List.map_cons, List.map_nil, List.length_cons, List.length_nil, List.replicate, List.cons_append, List.nil_append, List.getElem?_cons_zero, List.getElem?_cons_succ, List.set_cons_zero, List.set_cons_succ, M.bind_assoc, if_true, zl, Nat.reduceAdd, Nat.reduceLeDiff, not_tup ht ho]
      exact hR
    cases d with
    | tup xs =>
      try simp only [runB, startE, sSeq, sIf, sRet, sSet, sPar, sNil, sDrop, eBin, eUn, eC, eVar, eAnd, eOr, eNot, notD, eF, eCL, L1, L1N, nCL, aCons, aNil, eTup, nLst, eN, tV, tTru, asB, tru, tOrM, tAndM, tNotM, eIf, eSl, pSome, pNo, nUn, M.ret_bind, List.map_cons, List.map_nil, List.length_cons, List.length_nil, List.replicate, List.cons_append, List.nil_append, List.getElem?_cons_zero, List.getElem?_cons_succ, List.set_cons_zero, List.set_cons_succ, M.bind_assoc, if_true, zl, Nat.reduceAdd, Nat.reduceLeDiff, isi_ti, len_t, gt_len]
      cases xs with
      | nil =>
        try simp only [runB, startE, sSeq, sIf, sRet, sSet, sPar, sNil, sDrop, eBin, eUn, eC, eVar, eAnd, eOr, eNot, notD, eF, eCL, L1, L1N, nCL, aCons, aNil, eTup, nLst, eN, tV, tTru, asB, tru, tOrM, tAndM, tNotM, eIf, eSl, pSome, pNo, nUn, M.ret_bind, List.map_cons, List.map_nil, List.length_cons, List.length_nil, List.replicate, List.cons_append, List.nil_append, List.getElem?_cons_zero, List.getElem?_cons_succ, List.set_cons_zero, List.set_cons_succ, M.bind_assoc, if_true, zl, Nat.reduceAdd, Nat.reduceLeDiff, List.isEmpty_nil, Bool.not_true]
        exact hR
      | cons x r =>
        try simp only [runB, startE, sSeq, sIf, sRet, sSet, sPar, sNil, sDrop, eBin, eUn, eC, eVar, eAnd, eOr, eNot, notD, eF, eCL, L1, L1N, nCL, aCons, aNil, eTup, nLst, eN, tV, tTru, asB, tru, tOrM, tAndM, tNotM, eIf, eSl, pSome, pNo, nUn, M.ret_bind, List.map_cons, List.map_nil, List.length_cons, List.length_nil, List.replicate, List.cons_append, List.nil_append, List.getElem?_cons_zero, List.getElem?_cons_succ, List.set_cons_zero, List.set_cons_succ, M.bind_assoc, if_true, zl, Nat.reduceAdd, Nat.reduceLeDiff, List.isEmpty_cons, Bool.not_false]
        refine Gen.bind (gen_draw 5 (by decide) (by decide)) fun y ⟨i, e, _, _⟩ => ?_
        subst e
        try simp only [runB, startE, sSeq, sIf, sRet, sSet, sPar, sNil, sDrop, eBin, eUn, eC, eVar, eAnd, eOr, eNot, notD, eF, eCL, L1, L1N, nCL, aCons, aNil, eTup, nLst, eN, tV, tTru, asB, tru, tOrM, tAndM, tNotM, eIf, eSl, pSome, pNo, nUn, M.ret_bind, List.map_cons, List.map_nil, List.length_cons, List.length_nil, List.replicate, List.cons_append, List.nil_append, List.getElem?_cons_zero, List.getElem?_cons_succ, List.set_cons_zero, List.set_cons_succ, M.bind_assoc, if_true, zl, Nat.reduceAdd, Nat.reduceLeDiff, gt_i]
        cases decide (0 < i) with
        | true =>
          try simp only [runB, startE, sSeq, sIf, sRet, sSet, sPar, sNil, sDrop, eBin, eUn, eC, eVar, eAnd, eOr, eNot, notD, eF, eCL, L1, L1N, nCL, aCons, aNil, eTup, nLst, eN, tV, tTru, asB, tru, tOrM, tAndM, tNotM, eIf, eSl, pSome, pNo, nUn, M.ret_bind, List.map_cons, List.map_nil, List.length_cons, List.length_nil, List.replicate, List.cons_append, List.nil_append, List.getElem?_cons_zero, List.getElem?_cons_succ, List.set_cons_zero, List.set_cons_succ, M.bind_assoc, if_true, zl, Nat.reduceAdd, Nat.reduceLeDiff]
          have gA := gen_bentA (rec := M__law_bent n) (z2 := .no) (z3 := .no) (z4 := .no) ha g (by simp) fun y hy => gen_bent n y a ha (by
            simp only [D.g, Bool.and_eq_true] at g
            exact gL_iff.mp g.2 y hy) (by
            have := depL_iff.mp (Nat.le_refl (D.depL (x :: r))) y hy
            have h : D.depL (x :: r) + 1 < n + 1 := h
            omega)
          refine Gen.bind gA fun c ⟨q, e, t⟩ => ?_
          subst e
          exact Gen.ret ⟨q, rfl, t⟩
        | false =>
          try simp only [runB, startE, sSeq, sIf, sRet, sSet, sPar, sNil, sDrop, eBin, eUn, eC, eVar, eAnd, eOr, eNot, notD, eF, eCL, L1, L1N, nCL, aCons, aNil, eTup, nLst, eN, tV, tTru, asB, tru, tOrM, tAndM, tNotM, eIf, eSl, pSome, pNo, nUn, M.ret_bind, List.map_cons, List.map_nil, List.length_cons, List.length_nil, List.replicate, List.cons_append, List.nil_append, List.getElem?_cons_zero, List.getElem?_cons_succ, List.set_cons_zero, List.set_cons_succ, M.bind_assoc, if_true, zl, Nat.reduceAdd, Nat.reduceLeDiff]
          exact hR
    | _ => exact skip rfl
end G
namespace G
open PySem PySem.Spec PyProof.Rows L2 F
theorem Gen.bindD {β : Type} {n : Int} {f : D → M β} {Q : β → Prop} (h0 : 0 < n) (h1 : n < 1073741824) (h : ∀ i, 0 ≤ i → i < n → Gen (f (.int i)) Q) : Gen (M__law_draw [.obj 0, .int n] >>= f) Q :=
  Gen.bind (gen_draw n h0 h1) fun d ⟨i, e, a, b⟩ => by subst e; exact h i a b
/-! ## ways drawn -/
def putG : SM := (sSeq (sSet 3 (eBin addM (eBin addM (eVar 3) (eF 2 M__law_draw (aCons (eVar 0) (aCons (eC (.int 3)) aNil)))) (eCL (L1 intM) (aCons (eBin gtM (eVar 4) (eC (.int 0))) aNil)))) (sApp 2 (eTup (aCons (eVar 3) (aCons (eBin addM (eF 2 M__law_page (aCons (eVar 0) (aCons (eVar 1) aNil))) (eTup (aCons (eTup (aCons (eC (.str "end")) aNil)) aNil))) aNil)))))
theorem put_eqG : b__law_put = sSeq (sParNV 2 3 (nLst aNil) (eC (.int 0))) (sSeq (sFor (iR1 (aCons (eF 2 M__law_draw (aCons (eVar 0) (aCons (eC (.int 4)) aNil))) aNil)) (gN 4) putG) (sFrz 2 (sRet (eCL (L1 tupleM) (aCons (eVar 2) aNil))))) := rfl
theorem gen_putG (most : Int) (m0 : 0 ≤ most) (m1 : most ≤ 8) (ds : List D) (at_ : Int) (lap : Int) (a0 : 0 ≤ at_) (a1 : at_ ≤ 100) (hl : ds.length ≤ 100) :
    Gen (putG [.v (.obj 0), .v (.int most), .own ds, .v (.int at_), .v (.int lap)]) fun c => ∃ (x : D) (j : Int), c = .nx [.v (.obj 0), .v (.int most), .own (ds ++ [x]), .v (.int j), .v (.int lap)] ∧ Ty 0 4 4000 x ∧ 0 ≤ j ∧ j ≤ at_ + 3 := by
  unfold putG
  try simp only [runB, startE, sSeq, sIf, sRet, sSet, sPar, sNil, sDrop, eBin, eUn, eC, eVar, eAnd, eOr, eNot, notD, eF, eCL, L1, L1N, nCL, aCons, aNil, eTup, nLst, eN, tV, tTru, asB, tru, tOrM, tAndM, tNotM, eIf, eSl, pSome, pNo, nUn, M.ret_bind, List.map_cons, List.map_nil, List.length_cons, List.length_nil, List.replicate, List.cons_append, List.nil_append, List.getElem?_cons_zero, List.getElem?_cons_succ, List.set_cons_zero, List.set_cons_succ, M.bind_assoc, if_true, zl, Nat.reduceAdd, Nat.reduceLeDiff]
  refine Gen.bindD (by decide) (by decide) fun i i0 i1 => ?_
  obtain ⟨b, hb, hb0, hb1⟩ : ∃ b : Int, (if decide ((0 : Int) < lap) = true then (1 : Int) else 0) = b ∧ 0 ≤ b ∧ b ≤ 1 := ⟨_, rfl, by split <;> omega, by split <;> omega⟩
  try simp only [runB, startE, sSeq, sIf, sRet, sSet, sPar, sNil, sDrop, eBin, eUn, eC, eVar, eAnd, eOr, eNot, notD, eF, eCL, L1, L1N, nCL, aCons, aNil, eTup, nLst, eN, tV, tTru, asB, tru, tOrM, tAndM, tNotM, eIf, eSl, pSome, pNo, nUn, M.ret_bind, List.map_cons, List.map_nil, List.length_cons, List.length_nil, List.replicate, List.cons_append, List.nil_append, List.getElem?_cons_zero, List.getElem?_cons_succ, List.set_cons_zero, List.set_cons_succ, M.bind_assoc, if_true, zl, Nat.reduceAdd, Nat.reduceLeDiff, add_i, gt_i, intM, hb]
  try simp only [runB, startE, sSeq, sIf, sRet, sSet, sPar, sNil, sDrop, eBin, eUn, eC, eVar, eAnd, eOr, eNot, notD, eF, eCL, L1, L1N, nCL, aCons, aNil, eTup, nLst, eN, tV, tTru, asB, tru, tOrM, tAndM, tNotM, eIf, eSl, pSome, pNo, nUn, M.ret_bind, List.map_cons, List.map_nil, List.length_cons, List.length_nil, List.replicate, List.cons_append, List.nil_append, List.getElem?_cons_zero, List.getElem?_cons_succ, List.set_cons_zero, List.set_cons_succ, M.bind_assoc, if_true, zl, Nat.reduceAdd, Nat.reduceLeDiff, sApp, add_i]
  refine Gen.bind (gen_page most m0 (by omega)) fun d ⟨xs, e, hx, hX⟩ => ?_
  subst e
  have ha : addM (.tup xs) (.tup [.tup [.str "end"]]) = .ret (.tup (xs ++ [.tup [.str "end"]])) := add_t _ _ (by simp; omega)
  try simp only [runB, startE, sSeq, sIf, sRet, sSet, sPar, sNil, sDrop, eBin, eUn, eC, eVar, eAnd, eOr, eNot, notD, eF, eCL, L1, L1N, nCL, aCons, aNil, eTup, nLst, eN, tV, tTru, asB, tru, tOrM, tAndM, tNotM, eIf, eSl, pSome, pNo, nUn, M.ret_bind, List.map_cons, List.map_nil, List.length_cons, List.length_nil, List.replicate, List.cons_append, List.nil_append, List.getElem?_cons_zero, List.getElem?_cons_succ, List.set_cons_zero, List.set_cons_succ, M.bind_assoc, if_true, zl, Nat.reduceAdd, Nat.reduceLeDiff, ha]
  have tp : Ty 0 3 (9 * (400 + 2) + 3) (.tup (xs ++ [.tup [.str "end"]])) := by
    have hlen : (xs ++ [D.tup [.str "end"]]).length ≤ 9 := by simp; omega
    have T := Ty.tup (n := 0) (k := 2) (W := 400) (xs := xs ++ [.tup [.str "end"]]) (fun x hx' => by
      rcases List.mem_append.mp hx' with h | h
      · exact hX x h
      · have : x = .tup [.str "end"] := by simpa using h
        subst this; exact tyB (by decide +kernel)) (by omega)
    exact T.mono (h3 := by have := Nat.mul_le_mul_right (400 + 2) hlen; omega)
  have tx : Ty 0 4 4000 (.tup [.int (at_ + i + b), .tup (xs ++ [.tup [.str "end"]])]) := by
    have t1 : Ty 0 3 64 (.int (at_ + i + b)) := ⟨by simp only [D.g, decide_eq_true_eq]; omega, Nat.zero_le _, Nat.le_refl _⟩
    refine ⟨?_, ?_, ?_⟩
    · simp only [D.g, D.gL, Bool.and_eq_true, decide_eq_true_eq]
      have g1 := t1.g
      have g2 := tp.g
      simp only [D.g, Bool.and_eq_true, decide_eq_true_eq] at g1 g2
      exact ⟨by simp, g1, g2, trivial⟩
    · have q := tp.k
      generalize D.tup (xs ++ [.tup [.str "end"]]) = Y at q
      simp only [D.dep, D.depL]
      omega
    · have q := tp.w
      generalize D.tup (xs ++ [.tup [.str "end"]]) = Y at q
      simp only [D.w, D.wL]
      omega
  rw [if_pos (show ds.length < sizeLine by rw [sizeLine_eq]; omega)]
  exact Gen.ret ⟨_, at_ + i + b, rfl, tx, by omega, by omega⟩
theorem gen_putL (most : Int) (m0 : 0 ≤ most) (m1 : most ≤ 8) : ∀ (ls : List D) (ds : List D) (at_ : Int) (z : Sl), (∀ l ∈ ls, ∃ i, l = .int i) → 0 ≤ at_ → at_ + 3 * ls.length ≤ 100 → ds.length + ls.length ≤ 10 → (∀ x ∈ ds, Ty 0 4 4000 x) →
    Gen (forM (gN 4) putG ls [.v (.obj 0), .v (.int most), .own ds, .v (.int at_), z]) fun c => ∃ (es : List D) (z3 z4 : Sl), c = .nx [.v (.obj 0), .v (.int most), .own es, z3, z4] ∧ (∀ x ∈ es, Ty 0 4 4000 x) ∧ es.length = ds.length + ls.length
  | [], ds, at_, z, _, _, _, _, hd => Gen.ret ⟨ds, _, _, rfl, hd, rfl⟩
  | l :: ls, ds, at_, z, hl, a0, a1, h10, hd => by
    obtain ⟨i, rfl⟩ := hl l List.mem_cons_self
    simp only [List.length_cons] at a1 h10
    have e : forM (gN 4) putG (.int i :: ls) [.v (.obj 0), .v (.int most), .own ds, .v (.int at_), z] = (putG [.v (.obj 0), .v (.int most), .own ds, .v (.int at_), .v (.int i)] >>= fun c => match c with
      | .nx ρ2 => forM (gN 4) putG ls ρ2
      | .ct ρ2 => forM (gN 4) putG ls ρ2
      | .bk ρ2 => .ret (.nx ρ2)
      | .rt d => .ret (.rt d)) := rfl
    rw [e]
    refine Gen.bind (gen_putG most m0 m1 ds at_ i a0 (by omega) (by omega)) fun c ⟨x, j, e, tx, j0, j1⟩ => ?_
    subst e
    refine (gen_putL most m0 m1 ls (ds ++ [x]) j (.v (.int i)) (fun l hl' => hl l (List.mem_cons_of_mem _ hl')) j0 (by omega) (by simp; omega) (fun y hy => ?_)).mono fun c ⟨es, z3, z4, e, h1, h2⟩ => ⟨es, z3, z4, e, h1, by simp at h2 ⊢; omega⟩
    rcases List.mem_append.mp hy with h | h
    · exact hd y h
    · have : y = x := by simpa using h
      subst this; exact tx
theorem gen_put (most : Int) (m0 : 0 ≤ most) (m1 : most ≤ 8) : Gen (M__law_put [.obj 0, .int most]) (Ty 0 5 13000) := by
  unfold M__law_put
  rw [put_eqG]
  try simp only [runB, startE, sSeq, sIf, sRet, sSet, sPar, sNil, sDrop, eBin, eUn, eC, eVar, eAnd, eOr, eNot, notD, eF, eCL, L1, L1N, nCL, aCons, aNil, eTup, nLst, eN, tV, tTru, asB, tru, tOrM, tAndM, tNotM, eIf, eSl, pSome, pNo, nUn, M.ret_bind, List.map_cons, List.map_nil, List.length_cons, List.length_nil, List.replicate, List.cons_append, List.nil_append, List.getElem?_cons_zero, List.getElem?_cons_succ, List.set_cons_zero, List.set_cons_succ, M.bind_assoc, if_true, zl, Nat.reduceAdd, Nat.reduceLeDiff, sParNV, sFor, iR1]
  refine Gen.bind (gen_draw 4 (by decide) (by decide)) fun d ⟨n, e, n0, n1⟩ => ?_
  subst e
  try simp only [runB, startE, sSeq, sIf, sRet, sSet, sPar, sNil, sDrop, eBin, eUn, eC, eVar, eAnd, eOr, eNot, notD, eF, eCL, L1, L1N, nCL, aCons, aNil, eTup, nLst, eN, tV, tTru, asB, tru, tOrM, tAndM, tNotM, eIf, eSl, pSome, pNo, nUn, M.ret_bind, List.map_cons, List.map_nil, List.length_cons, List.length_nil, List.replicate, List.cons_append, List.nil_append, List.getElem?_cons_zero, List.getElem?_cons_succ, List.set_cons_zero, List.set_cons_succ, M.bind_assoc, if_true, zl, Nat.reduceAdd, Nat.reduceLeDiff]
  rw [rng1_i _ (by omega) (by omega)]
  try simp only [runB, startE, sSeq, sIf, sRet, sSet, sPar, sNil, sDrop, eBin, eUn, eC, eVar, eAnd, eOr, eNot, notD, eF, eCL, L1, L1N, nCL, aCons, aNil, eTup, nLst, eN, tV, tTru, asB, tru, tOrM, tAndM, tNotM, eIf, eSl, pSome, pNo, nUn, M.ret_bind, List.map_cons, List.map_nil, List.length_cons, List.length_nil, List.replicate, List.cons_append, List.nil_append, List.getElem?_cons_zero, List.getElem?_cons_succ, List.set_cons_zero, List.set_cons_succ, M.bind_assoc, if_true, zl, Nat.reduceAdd, Nat.reduceLeDiff]
  have hr : ∀ l ∈ rangeD 0 n.toNat, ∃ i, l = .int i := fun l hl => by
    unfold rangeD at hl
    obtain ⟨i, _, rfl⟩ := List.mem_map.mp hl
    exact ⟨_, rfl⟩
  refine Gen.bind (gen_putL most m0 m1 (rangeD 0 n.toNat) [] 0 .no hr (by omega) (by rw [rangeD_len]; omega) (by rw [rangeD_len]; simp; omega) (fun x hx => (nomatch hx))) fun c ⟨es, z3, z4, e, hE, hl⟩ => ?_
  subst e
  rw [rangeD_len] at hl
  simp only [List.length_nil] at hl
  try simp only [runB, startE, sSeq, sIf, sRet, sSet, sPar, sNil, sDrop, eBin, eUn, eC, eVar, eAnd, eOr, eNot, notD, eF, eCL, L1, L1N, nCL, aCons, aNil, eTup, nLst, eN, tV, tTru, asB, tru, tOrM, tAndM, tNotM, eIf, eSl, pSome, pNo, nUn, M.ret_bind, List.map_cons, List.map_nil, List.length_cons, List.length_nil, List.replicate, List.cons_append, List.nil_append, List.getElem?_cons_zero, List.getElem?_cons_succ, List.set_cons_zero, List.set_cons_succ, M.bind_assoc, if_true, zl, Nat.reduceAdd, Nat.reduceLeDiff, sFrz, tupleM]
  refine Gen.ret ?_
  have T := Ty.tup (n := 0) (k := 4) (W := 4000) (xs := es) hE (by omega)
  exact T.mono (h3 := by have := Nat.mul_le_mul_right (4000 + 2) (show es.length ≤ 3 by omega); omega)
end G
namespace G
open PySem PySem.Spec PyProof.Rows L2 F
/-- an item -/
structure It (d : D) : Prop where
  ok : D.ok d = true
  k : d.dep ≤ 50
  w : D.w d ≤ 60000
theorem It.fit {d : D} (i : It d) : Fit d := ⟨i.ok, by have := i.k; omega⟩
theorem Ty.it {n k W : Nat} {d : D} (t : Ty n k W d) (hn : n ≤ 20 := by omega) (hk : k ≤ 50 := by omega) (hW : W ≤ 60000 := by omega) : It d := ⟨g_ok hn d t.g, Nat.le_trans t.k hk, Nat.le_trans t.w hW⟩
/-- the law's own slots -/
def en (ns : List Int) (es : List D) (z3 z4 z5 z6 z7 z8 z9 z10 z11 z12 : Sl) : Ev := [.v (.scr ns), .v (.obj 0), .own es, z3, z4, z5, z6, z7, z8, z9, z10, z11, z12]
theorem sApp_en {ns : List Int} {es : List D} {z3 z4 z5 z6 z7 z8 z9 z10 z11 z12 : Sl} (m : Ev → M D) (h : es.length ≤ 1000) : sApp 2 m (en ns es z3 z4 z5 z6 z7 z8 z9 z10 z11 z12) = (m (en ns es z3 z4 z5 z6 z7 z8 z9 z10 z11 z12) >>= fun d => .ret (.nx (en ns (es ++ [d]) z3 z4 z5 z6 z7 z8 z9 z10 z11 z12))) := by
  show (m (en ns es z3 z4 z5 z6 z7 z8 z9 z10 z11 z12) >>= fun d => if es.length < sizeLine then M.ret (Ctl.nx ((en ns es z3 z4 z5 z6 z7 z8 z9 z10 z11 z12).set 2 (.own (es ++ [d])))) else .bad) = _
  congr 1
  funext d
  rw [if_pos (by rw [sizeLine_eq]; omega)]
  rfl
def innerG : SM := (sSeq (sApp 2 (eVar 11)) (sSeq (sApp 2 (eF 2 (M__law_bent 12) (aCons (eVar 1) (aCons (eVar 11) aNil)))) (sApp 2 (eF 2 (M__law_bent 12) (aCons (eVar 1) (aCons (eF 2 (M__law_bent 12) (aCons (eVar 1) (aCons (eVar 11) aNil))) aNil))))))
theorem gen_innerG {ns : List Int} {es : List D} {z3 z4 z5 z6 z7 z8 z9 z10 z12 : Sl} {d : D} (t : Ty 0 5 13000 d) (h : es.length ≤ 900) : Gen (innerG (en ns es z3 z4 z5 z6 z7 z8 z9 z10 (.v d) z12)) fun c => ∃ b1 b2, c = .nx (en ns (es ++ [d] ++ [b1] ++ [b2]) z3 z4 z5 z6 z7 z8 z9 z10 (.v d) z12) ∧ It d ∧ It b1 ∧ It b2 := by
  unfold innerG sSeq
  rw [sApp_en _ (by omega)]
  have v11 : ∀ e : List D, eVar 11 (en ns e z3 z4 z5 z6 z7 z8 z9 z10 (.v d) z12) = .ret d := fun _ => rfl
  have v1 : ∀ e : List D, eVar 1 (en ns e z3 z4 z5 z6 z7 z8 z9 z10 (.v d) z12) = .ret (.obj 0) := fun _ => rfl
  try simp only [v11, M.ret_bind]
  rw [sApp_en _ (by simp; omega)]
  try simp only [eF, aCons, aNil, v1, v11, M.ret_bind, List.length_cons, List.length_nil, Nat.reduceAdd, if_true, M.bind_assoc]
  refine Gen.bind (gen_bent 12 d 0 (by omega) t.g (by have := t.k; omega)) fun b1 t1 => ?_
  have hd := t.k
  have hw := t.w
  have t1' : Ty 1 9 27000 b1 := t1.mono
  try simp only [M.ret_bind]
  rw [sApp_en _ (by simp; omega)]
  try simp only [eF, aCons, aNil, v1, v11, M.ret_bind, List.length_cons, List.length_nil, Nat.reduceAdd, if_true, M.bind_assoc]
  refine Gen.bind (gen_bent 12 d 0 (by omega) t.g (by have := t.k; omega)) fun b2 t2 => ?_
  have t2' : Ty 1 9 27000 b2 := t2.mono
  try simp only [M.ret_bind, List.length_cons, List.length_nil, Nat.reduceAdd, if_true, M.bind_assoc]
  refine Gen.bind (gen_bent 12 b2 1 (by omega) t2'.g (by have := t2'.k; omega)) fun b3 t3 => ?_
  have t3' : Ty 2 13 55000 b3 := t3.mono (h2 := by have := t2'.k; omega) (h3 := by have := t2'.w; omega)
  exact Gen.ret ⟨b1, b3, rfl, t.it, t1'.it, t3'.it⟩
theorem gen_innerL {ns : List Int} {z3 z4 z5 z6 z7 z8 z9 z10 z12 : Sl} : ∀ (ds es : List D) (z11 : Sl), (∀ d ∈ ds, Ty 0 5 13000 d) → (∀ x ∈ es, It x) → es.length + 3 * ds.length ≤ 900 →
    Gen (forM (gN 11) innerG ds (en ns es z3 z4 z5 z6 z7 z8 z9 z10 z11 z12)) fun c => ∃ (fs : List D) (y : Sl), c = .nx (en ns fs z3 z4 z5 z6 z7 z8 z9 z10 y z12) ∧ (∀ x ∈ fs, It x) ∧ fs.length = es.length + 3 * ds.length
  | [], es, z11, _, he, _ => Gen.ret ⟨es, z11, rfl, he, rfl⟩
  | d :: ds, es, z11, hd, he, hl => by
    simp only [List.length_cons] at hl
    have e : forM (gN 11) innerG (d :: ds) (en ns es z3 z4 z5 z6 z7 z8 z9 z10 z11 z12) = (innerG (en ns es z3 z4 z5 z6 z7 z8 z9 z10 (.v d) z12) >>= fun c => match c with
      | .nx ρ2 => forM (gN 11) innerG ds ρ2
      | .ct ρ2 => forM (gN 11) innerG ds ρ2
      | .bk ρ2 => .ret (.nx ρ2)
      | .rt d => .ret (.rt d)) := rfl
    rw [e]
    refine Gen.bind (gen_innerG (hd d List.mem_cons_self) (by omega)) fun c ⟨b1, b2, e, i0, i1, i2⟩ => ?_
    subst e
    refine (gen_innerL ds (es ++ [d] ++ [b1] ++ [b2]) (.v d) (fun x hx => hd x (List.mem_cons_of_mem _ hx)) (fun x hx => ?_) (by simp; omega)).mono fun c ⟨fs, y, e, h1, h2⟩ => ⟨fs, y, e, h1, by simp at h2 ⊢; omega⟩
    simp only [List.mem_append, List.mem_singleton] at hx
    rcases hx with ((hx | hx) | hx) | hx
    · exact he x hx
    · subst hx; exact i0
    · subst hx; exact i1
    · subst hx; exact i2
end G
namespace G
open PySem PySem.Spec PyProof.Rows L2 F
theorem gen_pickS (s : Str) (h0 : 0 < s.length) (h1 : s.length ≤ 1000) : Gen (M__law_pick [.obj 0, .str s]) fun d => ∃ c ∈ s.cps.toList, d = .str ⟨#[c]⟩ := by
  have hc := len_cps s
  unfold M__law_pick b__law_pick
  simp only [runB, startE, sSeq, sIf, sRet, sSet, sPar, sNil, sDrop, eBin, eUn, eC, eVar, eAnd, eOr, eNot, notD, eF, eCL, L1, L1N, nCL, aCons, aNil, eTup, nLst, eN, tV, tTru, asB, tru, tOrM, tAndM, tNotM, eIf, eSl, pSome, pNo, nUn, M.ret_bind, List.map_cons, List.map_nil, List.length_cons, List.length_nil, List.replicate, List.cons_append, List.nil_append, List.getElem?_cons_zero, List.getElem?_cons_succ, List.set_cons_zero, List.set_cons_succ, M.bind_assoc, if_true, zl, Nat.reduceAdd, Nat.reduceLeDiff, len_s s h1]
  refine Gen.bind (gen_draw _ (by omega) (by omega)) fun d ⟨i, e, a, b⟩ => ?_
  subst e
  have hl : i.toNat < s.cps.toList.length := by omega
  have e : atI s.cps.toList i = some s.cps.toList[i.toNat] := by
    unfold atI ixN
    rw [if_pos a, if_pos (by omega)]
    exact List.getElem?_eq_getElem hl
  have e2 : idxM (.str s) (.int i) = .ret (.str ⟨#[s.cps.toList[i.toNat]]⟩) := by
    show (if s.length ≤ sizeLine then (match atI s.cps.toList i with | some c => M.ret (D.str ⟨#[c]⟩) | none => .bad) else .bad) = _
    rw [if_pos (sz1000 h1), e]
  try simp only [runB, startE, sSeq, sIf, sRet, sSet, sPar, sNil, sDrop, eBin, eUn, eC, eVar, eAnd, eOr, eNot, notD, eF, eCL, L1, L1N, nCL, aCons, aNil, eTup, nLst, eN, tV, tTru, asB, tru, tOrM, tAndM, tNotM, eIf, eSl, pSome, pNo, nUn, M.ret_bind, List.map_cons, List.map_nil, List.length_cons, List.length_nil, List.replicate, List.cons_append, List.nil_append, List.getElem?_cons_zero, List.getElem?_cons_succ, List.set_cons_zero, List.set_cons_succ, M.bind_assoc, if_true, zl, Nat.reduceAdd, Nat.reduceLeDiff, e2]
  exact Gen.ret ⟨_, List.getElem_mem hl, rfl⟩
theorem dd_len : ∀ (n : Nat) (l : List Int), l.length ≤ n → l.eraseDups.length ≤ l.length := by
  intro n
  induction n with
  | zero => intro l h; have : l = [] := List.eq_nil_of_length_eq_zero (by omega); subst this; simp
  | succ n ih =>
    intro l h
    cases l with
    | nil => simp
    | cons a l =>
      rw [List.eraseDups_cons, List.length_cons, List.length_cons]
      have h1 : (l.filter fun b => !b == a).length ≤ l.length := List.length_filter_le _ _
      have := ih (l.filter fun b => !b == a) (by simp at h; omega)
      omega
theorem ints_of {rs : List D} (h : ∀ x ∈ rs, ∃ i : Int, x = .int i ∧ 0 ≤ i ∧ i < 12) : ∃ ns : List Int, rs = ns.map D.int ∧ ∀ n ∈ ns, 0 ≤ n ∧ n < 12 := by
  induction rs with
  | nil => exact ⟨[], rfl, fun n hn => (nomatch hn)⟩
  | cons x rs ih =>
    obtain ⟨i, e, a⟩ := h x List.mem_cons_self
    obtain ⟨ns, e2, h2⟩ := ih fun y hy => h y (List.mem_cons_of_mem _ hy)
    refine ⟨i :: ns, by rw [e, e2]; rfl, fun n hn => ?_⟩
    rcases List.mem_cons.mp hn with q | q
    · subst q; exact a
    · exact h2 n q
theorem set_of {rs : List D} (h : ∀ x ∈ rs, ∃ i : Int, x = .int i ∧ 0 ≤ i ∧ i < 12) (hl : rs.length ≤ 4) : ∃ ms : List Int, sSetN (.lst rs) = .ret (ms.map D.int) ∧ ms.length ≤ 4 ∧ ∀ n ∈ ms, 0 ≤ n ∧ n < 12 := by
  obtain ⟨ns, rfl, h2⟩ := ints_of h
  rw [List.length_map] at hl
  refine ⟨srtI ns.eraseDups, ?_, ?_, fun n hn => ?_⟩
  · unfold sSetN
    simp only [intsOf_int]
    rw [if_pos (by omega)]
  · rw [(srt_perm _).length_eq]
    have := dd_len _ ns (Nat.le_refl _)
    omega
  · rw [(srt_perm _).mem_iff, (dd_nodup _ ns (Nat.le_refl _)).2] at hn
    exact h2 n hn
theorem ty_ints {ms : List Int} (h : ∀ n ∈ ms, 0 ≤ n ∧ n < 12) (hl : ms.length ≤ 8) : Ty 0 5 13000 (.tup (ms.map D.int)) := by
  have T := Ty.tup (n := 0) (k := 0) (W := 64) (xs := ms.map D.int) (fun x hx => by
    obtain ⟨n, hn, rfl⟩ := List.mem_map.mp hx
    have := h n hn
    exact ⟨by simp only [D.g, decide_eq_true_eq]; omega, Nat.zero_le _, Nat.le_refl _⟩) (by rw [List.length_map]; omega)
  exact T.mono (h3 := by rw [List.length_map]; have := Nat.mul_le_mul_right (64 + 2) hl; omega)
theorem join_cps (ys : List Str) : (Txt.join "" ys).cps.toList = ys.flatMap fun y => y.cps.toList := by
  have key : ∀ ys : List Str, (Str.join "" ys).cps.toList = ys.flatMap fun y => y.cps.toList := by
    intro ys
    induction ys with
    | nil => rfl
    | cons x r ih =>
      cases r with
      | nil =>
        show x.cps.toList = _
        simp
      | cons y r =>
        show (x ++ "" ++ Str.join "" (y :: r)).cps.toList = _
        rw [app_cps, app_cps, ih]
        have : (("" : Str)).cps.toList = [] := rfl
        rw [this]
        simp
  show (Builtin.Str.glued (PySem.Str.ofString "") ys).cps.toList = _
  rw [StrLaws.glued_eq_join]
  exact key ys
theorem join_of {rs : List D} (h : ∀ x ∈ rs, ∃ c ∈ (("abz" : Str)).cps.toList, x = .str ⟨#[c]⟩) (hl : rs.length ≤ 9) : ∃ z : Str, joinM "" (.lst rs) = .ret (.str z) ∧ Ty 0 0 92 (.str z) := by
  obtain ⟨cs, rfl, h2⟩ : ∃ cs : List Nat, rs = (cs.map fun c => (⟨#[c]⟩ : Str)).map D.str ∧ ∀ c ∈ cs, c ∈ (("abz" : Str)).cps.toList := by
    induction rs with
    | nil => exact ⟨[], rfl, fun n hn => (nomatch hn)⟩
    | cons x rs ih =>
      obtain ⟨c, hc, e⟩ := h x List.mem_cons_self
      obtain ⟨cs, e2, h2⟩ := ih (fun y hy => h y (List.mem_cons_of_mem _ hy)) (by simp at hl; omega)
      refine ⟨c :: cs, by rw [e, e2]; rfl, fun n hn => ?_⟩
      rcases List.mem_cons.mp hn with q | q
      · subst q; exact hc
      · exact h2 n q
  have hl2 : cs.length ≤ 9 := by simpa using hl
  have hs : ((cs.map fun c => (⟨#[c]⟩ : Str)).map (·.length)).sum = cs.length := by
    clear hl h h2 hl2
    induction cs with
    | nil => rfl
    | cons c cs ih => simp only [List.map_cons, List.sum_cons, ih, List.length_cons]; show 1 + cs.length = _; omega
  have hcp : (Txt.join "" (cs.map fun c => (⟨#[c]⟩ : Str))).cps.toList = cs := by
    rw [join_cps]
    clear hl h h2 hl2 hs
    induction cs with
    | nil => rfl
    | cons c cs ih => simp only [List.map_cons, List.flatMap_cons, ih]; rfl
  refine ⟨Txt.join "" (cs.map fun c => (⟨#[c]⟩ : Str)), ?_, ?_⟩
  · unfold joinM
    simp only [strsOf_str]
    rw [if_pos (by rw [hs, List.length_map]; have : (("" : Str)).length = 0 := rfl; rw [this]; omega)]
  · have hln : (Txt.join "" (cs.map fun c => (⟨#[c]⟩ : Str))).length = cs.length := by rw [len_cps, hcp]
    refine ⟨?_, Nat.zero_le _, by show 10 * (Txt.join "" (cs.map fun c => (⟨#[c]⟩ : Str))).length + 2 ≤ 92; rw [hln]; omega⟩
    simp only [D.g, Bool.and_eq_true, decide_eq_true_eq]
    refine ⟨(strOk_iff _).mpr fun c hc => ?_, by rw [hln]; omega⟩
    rw [hcp] at hc
    have := h2 c hc
    exact (strOk_iff "abz").mp (by decide +kernel) c this
def lapG : SM := (sSeq (sPar 5 6 (aCons (eF 2 M__law_page (aCons (eVar 1) (aCons (eC (.int 5)) aNil))) (aCons (eBin addM (eC (.int 1)) (eF 2 M__law_draw (aCons (eVar 1) (aCons (eC (.int 9)) aNil)))) aNil))) (sSeq (sSet 7 (eCL (L1 tupleM) (aCons (eN (nUn sSetN (eN (nComp [12] (iR1 (aCons (eF 2 M__law_draw (aCons (eVar 1) (aCons (eC (.int 5)) aNil))) aNil)) (gN 12) tYesM (eF 2 M__law_draw (aCons (eVar 1) (aCons (eC (.int 12)) aNil))))))) aNil))) (sSeq (sSet 8 (eTup (aCons (eF 2 M__law_draw (aCons (eVar 1) (aCons (eC (.int 70)) aNil))) (aCons (eF 2 M__law_pick (aCons (eVar 1) (aCons (eN (nLst (aCons (eC (.str "use")) (aCons (eC (.str "unused")) (aCons (eC (.str "twice")) (aCons (eC (.str "stop")) (aCons (eC (.str "give")) (aCons (eC (.str "after")) (aCons (eC (.str "falls")) aNil))))))))) aNil))) aNil)))) (sSeq (sSet 9 (eJoin (eC (.str "")) (eN (nComp [12] (iR1 (aCons (eVar 6) aNil)) (gN 12) tYesM (eF 2 M__law_pick (aCons (eVar 1) (aCons (eC (.str "abz")) aNil))))))) (sSeq (sOwn 10 (nLst (aCons (eVar 5) (aCons (eVar 7) (aCons (eBin addM (eVar 7) (eSl (eVar 7) pNo (pSome (eC (.int 1))))) (aCons (eUn revM (eVar 7)) (aCons (eVar 8) (aCons (eTup (aCons (eBin idxM (eVar 8) (eC (.int 0))) (aCons (eF 2 M__law_pick (aCons (eVar 1) (aCons (eN (nLst (aCons (eC (.str "open")) (aCons (eC (.str "end")) aNil)))) aNil))) aNil))) (aCons (eVar 9) aNil))))))))) (sSeq (sExt 10 (eN (nLst (aCons (eF 2 M__law_put (aCons (eVar 1) (aCons (eC (.int 3)) aNil))) (aCons (eTup (aCons (eC (.str "let")) (aCons (eVar 9) (aCons (eC (.str "num")) aNil)))) (aCons (eTup (aCons (eC (.str "open")) (aCons (eTup (aCons (eC (.str "fun")) (aCons (eVar 9) aNil))) aNil))) (aCons (eTup (aCons (eC (.str "give")) (aCons (eVar 9) aNil))) aNil))))))) (sFrz 10 (sFor (iAny (eBin addM (eVar 10) (eN (nCL (L1N listN) (aCons (eSl (eVar 5) pNo (pSome (eC (.int 3)))) aNil))))) (gN 11) innerG))))))))
end G
namespace G
open PySem PySem.Spec PyProof.Rows L2 F
theorem ty_m {d : D} {L : List D} (hd : d ∈ L) (h : ∀ x ∈ L, Ty 0 5 13000 x) : Ty 0 5 13000 d := h d hd
theorem sl_to1 (ms : List Int) : sliceM none (some 1) (.tup (ms.map D.int)) = .ret (.tup ((ms.take 1).map D.int)) := by rw [sl_to _ 1 (by decide), List.map_take]; rfl
theorem gen_lap {ns : List Int} {es : List D} {lap : Int} {z4 z5 z6 z7 z8 z9 z10 z11 z12 : Sl} (he : ∀ x ∈ es, It x) (hl : es.length ≤ 300) :
    Gen (lapG (en ns es (.v (.int lap)) z4 z5 z6 z7 z8 z9 z10 z11 z12)) fun c => ∃ (fs : List D) (y3 y4 y5 y6 y7 y8 y9 y10 y11 y12 : Sl), c = .nx (en ns fs y3 y4 y5 y6 y7 y8 y9 y10 y11 y12) ∧ (∀ x ∈ fs, It x) ∧ (es.length ≤ fs.length ∧ fs.length ≤ es.length + 42) := by
  unfold lapG
  try simp only [runB, startE, sSeq, sIf, sRet, sSet, sPar, sNil, sDrop, eBin, eUn, eC, eVar, eAnd, eOr, eNot, notD, eF, eCL, L1, L1N, nCL, aCons, aNil, eTup, nLst, eN, tV, tTru, asB, tru, tOrM, tAndM, tNotM, eIf, eSl, pSome, pNo, nUn, M.ret_bind, List.map_cons, List.map_nil, List.length_cons, List.length_nil, List.replicate, List.cons_append, List.nil_append, List.getElem?_cons_zero, List.getElem?_cons_succ, List.set_cons_zero, List.set_cons_succ, M.bind_assoc, if_true, zl, Nat.reduceAdd, Nat.reduceLeDiff, en, sOwn, sExt, sFrz, eJoin]
  refine Gen.bind (gen_page 5 (by decide) (by decide)) fun pg ⟨xs, e, hx, hX⟩ => ?_
  subst e
  try simp only [runB, startE, sSeq, sIf, sRet, sSet, sPar, sNil, sDrop, eBin, eUn, eC, eVar, eAnd, eOr, eNot, notD, eF, eCL, L1, L1N, nCL, aCons, aNil, eTup, nLst, eN, tV, tTru, asB, tru, tOrM, tAndM, tNotM, eIf, eSl, pSome, pNo, nUn, M.ret_bind, List.map_cons, List.map_nil, List.length_cons, List.length_nil, List.replicate, List.cons_append, List.nil_append, List.getElem?_cons_zero, List.getElem?_cons_succ, List.set_cons_zero, List.set_cons_succ, M.bind_assoc, if_true, zl, Nat.reduceAdd, Nat.reduceLeDiff, en, sOwn, sExt, sFrz, eJoin]
  refine Gen.bindD (by decide) (by decide) fun i i0 i1 => ?_
  try simp only [runB, startE, sSeq, sIf, sRet, sSet, sPar, sNil, sDrop, eBin, eUn, eC, eVar, eAnd, eOr, eNot, notD, eF, eCL, L1, L1N, nCL, aCons, aNil, eTup, nLst, eN, tV, tTru, asB, tru, tOrM, tAndM, tNotM, eIf, eSl, pSome, pNo, nUn, M.ret_bind, List.map_cons, List.map_nil, List.length_cons, List.length_nil, List.replicate, List.cons_append, List.nil_append, List.getElem?_cons_zero, List.getElem?_cons_succ, List.set_cons_zero, List.set_cons_succ, M.bind_assoc, if_true, zl, Nat.reduceAdd, Nat.reduceLeDiff, en, sOwn, sExt, sFrz, add_i]
  refine Gen.bind (gen_nCompL (P := fun x => ∃ i : Int, x = .int i ∧ 0 ≤ i ∧ i < 12) (L := fun n => n ≤ 4) ?_) fun rs ⟨rL, hR⟩ => ?_
  · unfold iR1
    try simp only [runB, startE, sSeq, sIf, sRet, sSet, sPar, sNil, sDrop, eBin, eUn, eC, eVar, eAnd, eOr, eNot, notD, eF, eCL, L1, L1N, nCL, aCons, aNil, eTup, nLst, eN, tV, tTru, asB, tru, tOrM, tAndM, tNotM, eIf, eSl, pSome, pNo, nUn, M.ret_bind, List.map_cons, List.map_nil, List.length_cons, List.length_nil, List.replicate, List.cons_append, List.nil_append, List.getElem?_cons_zero, List.getElem?_cons_succ, List.set_cons_zero, List.set_cons_succ, M.bind_assoc, if_true, zl, Nat.reduceAdd, Nat.reduceLeDiff, en, sOwn, sExt, sFrz, eJoin]
    refine Gen.bindD (by decide) (by decide) fun j j0 j1 => ?_
    try simp only [runB, startE, sSeq, sIf, sRet, sSet, sPar, sNil, sDrop, eBin, eUn, eC, eVar, eAnd, eOr, eNot, notD, eF, eCL, L1, L1N, nCL, aCons, aNil, eTup, nLst, eN, tV, tTru, asB, tru, tOrM, tAndM, tNotM, eIf, eSl, pSome, pNo, nUn, M.ret_bind, List.map_cons, List.map_nil, List.length_cons, List.length_nil, List.replicate, List.cons_append, List.nil_append, List.getElem?_cons_zero, List.getElem?_cons_succ, List.set_cons_zero, List.set_cons_succ, M.bind_assoc, if_true, zl, Nat.reduceAdd, Nat.reduceLeDiff, en, sOwn, sExt, sFrz, eJoin]
    rw [rng1_i _ j0 (by omega)]
    refine Gen.ret ⟨by rw [rangeD_len]; omega, fun d hd => ⟨_, rfl, ?_⟩⟩
    try simp only [runB, startE, sSeq, sIf, sRet, sSet, sPar, sNil, sDrop, eBin, eUn, eC, eVar, eAnd, eOr, eNot, notD, eF, eCL, L1, L1N, nCL, aCons, aNil, eTup, nLst, eN, tV, tTru, asB, tru, tOrM, tAndM, tNotM, eIf, eSl, pSome, pNo, nUn, M.ret_bind, List.map_cons, List.map_nil, List.length_cons, List.length_nil, List.replicate, List.cons_append, List.nil_append, List.getElem?_cons_zero, List.getElem?_cons_succ, List.set_cons_zero, List.set_cons_succ, M.bind_assoc, if_true, zl, Nat.reduceAdd, Nat.reduceLeDiff, en, sOwn, sExt, sFrz, wipeE, gN]
    exact gen_draw 12 (by decide) (by decide)
  obtain ⟨ms, eS, mL, hM⟩ := set_of hR rL
  try simp only [runB, startE, sSeq, sIf, sRet, sSet, sPar, sNil, sDrop, eBin, eUn, eC, eVar, eAnd, eOr, eNot, notD, eF, eCL, L1, L1N, nCL, aCons, aNil, eTup, nLst, eN, tV, tTru, asB, tru, tOrM, tAndM, tNotM, eIf, eSl, pSome, pNo, nUn, M.ret_bind, List.map_cons, List.map_nil, List.length_cons, List.length_nil, List.replicate, List.cons_append, List.nil_append, List.getElem?_cons_zero, List.getElem?_cons_succ, List.set_cons_zero, List.set_cons_succ, M.bind_assoc, if_true, zl, Nat.reduceAdd, Nat.reduceLeDiff, en, sOwn, sExt, sFrz, eS, tupleM]
  refine Gen.bindD (by decide) (by decide) fun k k0 k1 => ?_
  try simp only [runB, startE, sSeq, sIf, sRet, sSet, sPar, sNil, sDrop, eBin, eUn, eC, eVar, eAnd, eOr, eNot, notD, eF, eCL, L1, L1N, nCL, aCons, aNil, eTup, nLst, eN, tV, tTru, asB, tru, tOrM, tAndM, tNotM, eIf, eSl, pSome, pNo, nUn, M.ret_bind, List.map_cons, List.map_nil, List.length_cons, List.length_nil, List.replicate, List.cons_append, List.nil_append, List.getElem?_cons_zero, List.getElem?_cons_succ, List.set_cons_zero, List.set_cons_succ, M.bind_assoc, if_true, zl, Nat.reduceAdd, Nat.reduceLeDiff, en, sOwn, sExt, sFrz, eJoin]
  refine Gen.bind (gen_pick _ (by simp) (by simp)) fun wd hwd => ?_
  have tw : Ty 0 0 90 wd := mem_ty hwd (by decide +kernel)
  try simp only [runB, startE, sSeq, sIf, sRet, sSet, sPar, sNil, sDrop, eBin, eUn, eC, eVar, eAnd, eOr, eNot, notD, eF, eCL, L1, L1N, nCL, aCons, aNil, eTup, nLst, eN, tV, tTru, asB, tru, tOrM, tAndM, tNotM, eIf, eSl, pSome, pNo, nUn, M.ret_bind, List.map_cons, List.map_nil, List.length_cons, List.length_nil, List.replicate, List.cons_append, List.nil_append, List.getElem?_cons_zero, List.getElem?_cons_succ, List.set_cons_zero, List.set_cons_succ, M.bind_assoc, if_true, zl, Nat.reduceAdd, Nat.reduceLeDiff, en, sOwn, sExt, sFrz, eJoin]
  refine Gen.bind (gen_nCompL (P := fun x => ∃ c ∈ (("abz" : Str)).cps.toList, x = .str ⟨#[c]⟩) (L := fun n => n ≤ 9) ?_) fun cs ⟨cL, hC⟩ => ?_
  · unfold iR1
    try simp only [runB, startE, sSeq, sIf, sRet, sSet, sPar, sNil, sDrop, eBin, eUn, eC, eVar, eAnd, eOr, eNot, notD, eF, eCL, L1, L1N, nCL, aCons, aNil, eTup, nLst, eN, tV, tTru, asB, tru, tOrM, tAndM, tNotM, eIf, eSl, pSome, pNo, nUn, M.ret_bind, List.map_cons, List.map_nil, List.length_cons, List.length_nil, List.replicate, List.cons_append, List.nil_append, List.getElem?_cons_zero, List.getElem?_cons_succ, List.set_cons_zero, List.set_cons_succ, M.bind_assoc, if_true, zl, Nat.reduceAdd, Nat.reduceLeDiff, en, sOwn, sExt, sFrz, eJoin]
    rw [rng1_i _ (by omega) (by omega)]
    refine Gen.ret ⟨by rw [rangeD_len]; omega, fun d hd => ⟨_, rfl, ?_⟩⟩
    try simp only [runB, startE, sSeq, sIf, sRet, sSet, sPar, sNil, sDrop, eBin, eUn, eC, eVar, eAnd, eOr, eNot, notD, eF, eCL, L1, L1N, nCL, aCons, aNil, eTup, nLst, eN, tV, tTru, asB, tru, tOrM, tAndM, tNotM, eIf, eSl, pSome, pNo, nUn, M.ret_bind, List.map_cons, List.map_nil, List.length_cons, List.length_nil, List.replicate, List.cons_append, List.nil_append, List.getElem?_cons_zero, List.getElem?_cons_succ, List.set_cons_zero, List.set_cons_succ, M.bind_assoc, if_true, zl, Nat.reduceAdd, Nat.reduceLeDiff, en, sOwn, sExt, sFrz, wipeE, gN]
    exact gen_pickS "abz" (by decide) (by decide)
  obtain ⟨z, eJ, tz⟩ := join_of hC cL
  have l1 : ((ms.map D.int).length + ((ms.take 1).map D.int).length) ≤ 1000 := by rw [List.length_map, List.length_map, List.length_take]; omega
  have eA : addM (.tup (ms.map D.int)) (.tup ((ms.take 1).map D.int)) = .ret (.tup ((ms ++ ms.take 1).map D.int)) := by rw [add_t _ _ l1, List.map_append]
  have eR : revM (.tup (ms.map D.int)) = .ret (.tup (ms.reverse.map D.int)) := by show M.ret (D.tup (ms.map D.int).reverse) = _; rw [List.map_reverse]
  try simp only [runB, startE, sSeq, sIf, sRet, sSet, sPar, sNil, sDrop, eBin, eUn, eC, eVar, eAnd, eOr, eNot, notD, eF, eCL, L1, L1N, nCL, aCons, aNil, eTup, nLst, eN, tV, tTru, asB, tru, tOrM, tAndM, tNotM, eIf, eSl, pSome, pNo, nUn, M.ret_bind, List.map_cons, List.map_nil, List.length_cons, List.length_nil, List.replicate, List.cons_append, List.nil_append, List.getElem?_cons_zero, List.getElem?_cons_succ, List.set_cons_zero, List.set_cons_succ, M.bind_assoc, if_true, zl, Nat.reduceAdd, Nat.reduceLeDiff, en, sOwn, sExt, sFrz, eJoin, eJ, sl_to1, eA, eR, ix0]
  refine Gen.bind (gen_pick _ (by simp) (by simp)) fun w2 hw2 => ?_
  have tw2 : Ty 0 0 90 w2 := mem_ty hw2 (by decide +kernel)
  try simp only [runB, startE, sSeq, sIf, sRet, sSet, sPar, sNil, sDrop, eBin, eUn, eC, eVar, eAnd, eOr, eNot, notD, eF, eCL, L1, L1N, nCL, aCons, aNil, eTup, nLst, eN, tV, tTru, asB, tru, tOrM, tAndM, tNotM, eIf, eSl, pSome, pNo, nUn, M.ret_bind, List.map_cons, List.map_nil, List.length_cons, List.length_nil, List.replicate, List.cons_append, List.nil_append, List.getElem?_cons_zero, List.getElem?_cons_succ, List.set_cons_zero, List.set_cons_succ, M.bind_assoc, if_true, zl, Nat.reduceAdd, Nat.reduceLeDiff, en, sOwn, sExt, sFrz, eJoin]
  refine Gen.bind (gen_put 3 (by decide) (by decide)) fun pt tp => ?_
  try simp only [runB, startE, sSeq, sIf, sRet, sSet, sPar, sNil, sDrop, eBin, eUn, eC, eVar, eAnd, eOr, eNot, notD, eF, eCL, L1, L1N, nCL, aCons, aNil, eTup, nLst, eN, tV, tTru, asB, tru, tOrM, tAndM, tNotM, eIf, eSl, pSome, pNo, nUn, M.ret_bind, List.map_cons, List.map_nil, List.length_cons, List.length_nil, List.replicate, List.cons_append, List.nil_append, List.getElem?_cons_zero, List.getElem?_cons_succ, List.set_cons_zero, List.set_cons_succ, M.bind_assoc, if_true, zl, Nat.reduceAdd, Nat.reduceLeDiff, en, sOwn, sExt, sFrz, sFor, iAny, sl_to xs 3 (by decide), listN]
  rw [add_l _ _ (by simp only [List.length_cons, List.length_nil, List.length_take]; omega)]
  try simp only [runB, startE, sSeq, sIf, sRet, sSet, sPar, sNil, sDrop, eBin, eUn, eC, eVar, eAnd, eOr, eNot, notD, eF, eCL, L1, L1N, nCL, aCons, aNil, eTup, nLst, eN, tV, tTru, asB, tru, tOrM, tAndM, tNotM, eIf, eSl, pSome, pNo, nUn, M.ret_bind, List.map_cons, List.map_nil, List.length_cons, List.length_nil, List.replicate, List.cons_append, List.nil_append, List.getElem?_cons_zero, List.getElem?_cons_succ, List.set_cons_zero, List.set_cons_succ, M.bind_assoc, if_true, zl, Nat.reduceAdd, Nat.reduceLeDiff, en, sOwn, sExt, sFrz, sFor, iAny, itM]
  have tpage : Ty 0 5 13000 (.tup xs) := (Ty.tup hX (by omega)).mono (h3 := by have := Nat.mul_le_mul_right (400 + 2) (show xs.length ≤ 5 by omega); omega)
  have tsm := ty_ints hM (by omega)
  have tap := ty_ints (ms := ms ++ ms.take 1) (fun n hn => by
    rcases List.mem_append.mp hn with h | h
    · exact hM n h
    · exact hM n (List.mem_of_mem_take h)) (by rw [List.length_append, List.length_take]; omega)
  have trv := ty_ints (ms := ms.reverse) (fun n hn => hM n (List.mem_reverse.mp hn)) (by rw [List.length_reverse]; omega)
  have tk : Ty 0 0 90 (.int k) := ⟨by simp only [D.g, decide_eq_true_eq]; omega, Nat.zero_le _, by show 64 ≤ 90; decide⟩
  have tsg : Ty 0 5 13000 (.tup [.int k, wd]) := (ty2 (k := 0) (W := 90) tk tw 300 (by decide)).mono
  have tsg2 : Ty 0 5 13000 (.tup [.int k, w2]) := (ty2 (k := 0) (W := 90) tk tw2 300 (by decide)).mono
  have tz' : Ty 0 0 100 (.str z) := tz.mono
  have tlet : Ty 0 5 13000 (.tup [.str "let", .str z, .str "num"]) := (ty3 (k := 0) (W := 100) (tyB (by decide +kernel)) tz' (tyB (by decide +kernel)) 400 (by decide)).mono
  have tfun : Ty 0 1 300 (.tup [.str "fun", .str z]) := ty2 (k := 0) (W := 100) (tyB (by decide +kernel)) tz' 300 (by decide)
  have topn : Ty 0 5 13000 (.tup [.str "open", .tup [.str "fun", .str z]]) := (ty2 (k := 1) (W := 300) (tyB (by decide +kernel)) tfun 700 (by decide)).mono
  have tgiv : Ty 0 5 13000 (.tup [.str "give", .str z]) := (ty2 (k := 0) (W := 100) (tyB (by decide +kernel)) tz' 300 (by decide)).mono
  refine (gen_innerL _ es z11 (fun d hd => ?_) he ?_).mono fun c ⟨fs, y, e, h1, h2⟩ => ⟨fs, _, _, _, _, _, _, _, _, _, _, e, h1, by omega, ?_⟩
  · simp only [List.mem_cons] at hd
    rcases hd with e | e | e | e | e | e | e | e | e | e | e | e
    · subst e; exact tpage
    · subst e; exact tsm
    · subst e; exact tap
    · subst e; exact trv
    · subst e; exact tsg
    · subst e; exact tsg2
    · subst e; exact tz.mono
    · subst e; exact tp
    · subst e; exact tlet
    · subst e; exact topn
    · subst e; exact tgiv
    · exact (hX d (List.mem_of_mem_take e)).mono
  · simp only [List.length_append, List.length_cons, List.length_nil, List.length_take]; omega
  · rw [h2]; simp only [List.length_append, List.length_cons, List.length_nil, List.length_take]; omega
theorem gen_laps {ns : List Int} : ∀ (ls : List D) (es : List D) (z3 z4 z5 z6 z7 z8 z9 z10 z11 z12 : Sl), (∀ l ∈ ls, ∃ i : Int, l = .int i) → (∀ x ∈ es, It x) → es.length + 42 * ls.length ≤ 300 →
    Gen (forM (gN 3) lapG ls (en ns es z3 z4 z5 z6 z7 z8 z9 z10 z11 z12)) fun c => ∃ (fs : List D) (y3 y4 y5 y6 y7 y8 y9 y10 y11 y12 : Sl), c = .nx (en ns fs y3 y4 y5 y6 y7 y8 y9 y10 y11 y12) ∧ (∀ x ∈ fs, It x) ∧ (es.length ≤ fs.length ∧ fs.length ≤ es.length + 42 * ls.length)
  | [], es, z3, z4, z5, z6, z7, z8, z9, z10, z11, z12, _, he, _ => Gen.ret ⟨es, _, _, _, _, _, _, _, _, _, _, rfl, he, Nat.le_refl _, Nat.le_refl _⟩
  | l :: ls, es, z3, z4, z5, z6, z7, z8, z9, z10, z11, z12, hl, he, hh => by
    obtain ⟨i, rfl⟩ := hl l List.mem_cons_self
    simp only [List.length_cons] at hh
    have e : forM (gN 3) lapG (.int i :: ls) (en ns es z3 z4 z5 z6 z7 z8 z9 z10 z11 z12) = (lapG (en ns es (.v (.int i)) z4 z5 z6 z7 z8 z9 z10 z11 z12) >>= fun c => match c with
      | .nx ρ2 => forM (gN 3) lapG ls ρ2
      | .ct ρ2 => forM (gN 3) lapG ls ρ2
      | .bk ρ2 => .ret (.nx ρ2)
      | .rt d => .ret (.rt d)) := rfl
    rw [e]
    refine Gen.bind (gen_lap he (by omega)) fun c ⟨fs, y3, y4, y5, y6, y7, y8, y9, y10, y11, y12, e, h1, h2⟩ => ?_
    subst e
    exact (gen_laps ls fs y3 y4 y5 y6 y7 y8 y9 y10 y11 y12 (fun l hl' => hl l (List.mem_cons_of_mem _ hl')) h1 (by omega)).mono fun c ⟨gs, x3, x4, x5, x6, x7, x8, x9, x10, x11, x12, e, g1, g2⟩ => ⟨gs, x3, x4, x5, x6, x7, x8, x9, x10, x11, x12, e, g1, by omega, by simp only [List.length_cons]; omega⟩
end G
namespace G
open PySem PySem.Spec PyProof.Rows L2 F
def lawR : SM := (sSeq (sOwn 2 (nComp [3] (iR1 (aCons (eC (.int 16)) aNil)) (gN 3) tYesM (eF 1 M__law_strange (aCons (eVar 1) aNil)))) (sSeq (sApp 2 (eTup (aCons (eTup (aCons (eC (.int 0)) (aCons (eTup (aCons (eTup (aCons (eC (.str "open")) (aCons (eC (.str "if")) aNil))) aNil)) aNil))) (aCons (eTup (aCons (eC (.int 0)) (aCons (eTup (aCons (eTup (aCons (eC (.str "open")) (aCons (eTup (aCons (eC (.str "fun")) (aCons (eC (.str "a")) aNil))) aNil))) aNil)) aNil))) aNil)))) (sSeq (sExt 2 (eN (nLst (aCons (eBin mulM (eTup (aCons (eTup (aCons (eC (.str "end")) aNil)) aNil)) (eC (.int 90))) (aCons (eTup (aCons (eTup (aCons (eC (.int 0)) (aCons (eBin mulM (eTup (aCons (eTup (aCons (eC (.str "stop")) aNil)) aNil)) (eC (.int 420))) aNil))) aNil)) (aCons (eTup (aCons (eTup (aCons (eC (.int 3)) (aCons (eTup (aCons (eTup (aCons (eC (.str "end")) aNil)) aNil)) aNil))) (aCons (eTup (aCons (eC (.int 500)) (aCons (eBin mulM (eTup (aCons (eTup (aCons (eC (.str "end")) aNil)) aNil)) (eC (.int 90))) aNil))) aNil))) (aCons (eTup (aCons (eC (.int 70)) aNil)) aNil))))))) (sSeq (sFor (iR1 (aCons (eC (.int 3)) aNil)) (gN 3) lapG) (sSeq (sFrz 2 (sSet 4 (eCL (L1 reprM) (aCons (eVar 2) aNil)))) (sSeq (sFrz 2 (sIf (tV (eBin neM (eN (nComp [11] (iAny (eVar 2)) (gN 11) (tV (eBin neM (eCL (L1 reprM) (aCons (eF 1 M__law_told (aCons (eVar 11) aNil)) aNil)) (eCL (L1 reprM) (aCons (eF 1 M__law_due (aCons (eVar 11) aNil)) aNil)))) (eVar 11))) (eN (nLst aNil)))) (sRet (eC (.bl false))) sNil)) (sFrz 2 (sRet (eAnd (eBin eqM (eCL (L1 reprM) (aCons (eF 1 M__law_named (aCons (eBin idxM (eVar 2) (eUn negM (eC (.int 1)))) aNil)) aNil)) (eCL (L1 reprM) (aCons (eF 1 M__law_due (aCons (eBin idxM (eVar 2) (eUn negM (eC (.int 1)))) aNil)) aNil))) (eBin eqM (eCL (L1 reprM) (aCons (eVar 2) aNil)) (eVar 4)))))))))))
theorem law_eqR : b_law = sSeq (sSet 1 (eF 1 M__law_feed (aCons (eVar 0) aNil))) lawR := rfl
theorem mul_rep (a : List D) (k : Int) (h : a ≠ [] ∧ 2 ≤ k ∧ k ≤ 1000 ∧ a.length ≤ 1000) : mulM (.tup a) (.int k) = .ret (.tup (List.replicate k.toNat a).flatten) := if_pos h
theorem it_end : It (.tup (List.replicate (90 : Int).toNat [D.tup [.str "end"]]).flatten) := ⟨by decide +kernel, by decide +kernel, by decide +kernel⟩
theorem it_put : It (.tup [.tup [.int 0, .tup (List.replicate (420 : Int).toNat [D.tup [.str "stop"]]).flatten]]) := ⟨by decide +kernel, by decide +kernel, by decide +kernel⟩
theorem it_two : It (.tup [.tup [.int 3, .tup [.tup [.str "end"]]], .tup [.int 500, .tup (List.replicate (90 : Int).toNat [D.tup [.str "end"]]).flatten]]) := ⟨by decide +kernel, by decide +kernel, by decide +kernel⟩
theorem it_num : It (.tup [.int 70]) := ⟨by decide +kernel, by decide +kernel, by decide +kernel⟩
theorem it_way : It (.tup [.tup [.int 0, .tup [.tup [.str "open", .str "if"]]], .tup [.int 0, .tup [.tup [.str "open", .tup [.str "fun", .str "a"]]]]]) := ⟨by decide +kernel, by decide +kernel, by decide +kernel⟩
theorem okL_all {ds : List D} (h : ∀ d ∈ ds, D.ok d = true) : D.okL ds = true := by
  induction ds with
  | nil => rfl
  | cons x xs ih => simp only [D.okL, Bool.and_eq_true]; exact ⟨h x List.mem_cons_self, ih fun d hd => h d (List.mem_cons_of_mem _ hd)⟩
theorem eq_ss (a : Str) : eqM (.str a) (.str a) = .ret (.bl true) := by
  have h : scalD (.str a) (.str a) = true := rfl
  have e : D.eqv (.str a) (.str a) = true := beq_self_eq_true a
  unfold eqM
  rw [h, e]; rfl
theorem ne_ss (a : Str) : neM (.str a) (.str a) = .ret (.bl false) := by
  have h : scalD (.str a) (.str a) = true := rfl
  have e : D.eqv (.str a) (.str a) = true := beq_self_eq_true a
  unfold neM
  rw [h, e]; rfl
theorem last_ix (fs : List D) (h : fs ≠ []) : ∃ x ∈ fs, idxM (.lst fs) (.int (-1)) = .ret x := by
  have hl : 0 < fs.length := List.length_pos_iff.mpr h
  refine ⟨fs[fs.length - 1], List.getElem_mem _, ?_⟩
  have e : atI fs (-1) = some fs[fs.length - 1] := by
    unfold atI ixN
    rw [if_neg (by decide), if_pos (by omega)]
    show fs[((-1 : Int) + fs.length).toNat]? = _
    rw [show ((-1 : Int) + fs.length).toNat = fs.length - 1 by omega]
    exact List.getElem?_eq_getElem _
  show (match atI fs (-1) with | some x => M.ret x | none => .bad) = _
  rw [e]
/-- the ends -/
def lawE : SM := (sSeq (sFrz 2 (sSet 4 (eCL (L1 reprM) (aCons (eVar 2) aNil)))) (sSeq (sFrz 2 (sIf (tV (eBin neM (eN (nComp [11] (iAny (eVar 2)) (gN 11) (tV (eBin neM (eCL (L1 reprM) (aCons (eF 1 M__law_told (aCons (eVar 11) aNil)) aNil)) (eCL (L1 reprM) (aCons (eF 1 M__law_due (aCons (eVar 11) aNil)) aNil)))) (eVar 11))) (eN (nLst aNil)))) (sRet (eC (.bl false))) sNil)) (sFrz 2 (sRet (eAnd (eBin eqM (eCL (L1 reprM) (aCons (eF 1 M__law_named (aCons (eBin idxM (eVar 2) (eUn negM (eC (.int 1)))) aNil)) aNil)) (eCL (L1 reprM) (aCons (eF 1 M__law_due (aCons (eBin idxM (eVar 2) (eUn negM (eC (.int 1)))) aNil)) aNil))) (eBin eqM (eCL (L1 reprM) (aCons (eVar 2) aNil)) (eVar 4)))))))
theorem gen_end {ns : List Int} {fs : List D} {z3 z4 z5 z6 z7 z8 z9 z10 z11 z12 : Sl} (hf : ∀ x ∈ fs, It x) (hl : fs.length ≤ 200) (h0 : fs ≠ []) : Gen (lawE (en ns fs z3 z4 z5 z6 z7 z8 z9 z10 z11 z12)) fun c => c = .rt (.bl true) := by
  have okl : D.ok (.lst fs) = true := by
    simp only [D.ok, Bool.and_eq_true, decide_eq_true_eq]
    exact ⟨by omega, okL_all fun d hd => (hf d hd).ok⟩
  have kl : (D.lst fs).dep ≤ 60 := by
    show D.depL fs + 1 ≤ 60
    have := depL_iff.mpr fun d hd => (hf d hd).k
    omega
  have wl : D.w (.lst fs) ≤ 16777216 := by
    show D.wL fs + 3 ≤ _
    have h1 := wL_le fun d hd => (hf d hd).w
    have h2 := Nat.mul_le_mul_right (60000 + 2) hl
    omega
  obtain ⟨kp, hk⟩ := shown_ok kl okl wl
  have hk : reprM (.lst fs) = .ret (.str kp) := hk
  obtain ⟨x, hx, ex⟩ := last_ix fs h0
  have fx := (hf x hx).fit
  obtain ⟨q, hq⟩ := allB_repr x
  have hn : negM (.int 1) = .ret (.int (-1)) := rfl
  unfold lawE
  try simp only [runB, startE, sSeq, sIf, sRet, sSet, sPar, sNil, sDrop, eBin, eUn, eC, eVar, eAnd, eOr, eNot, notD, eF, eCL, L1, L1N, nCL, aCons, aNil, eTup, nLst, eN, tV, tTru, asB, tru, tOrM, tAndM, tNotM, eIf, eSl, pSome, pNo, nUn, M.ret_bind, List.map_cons, List.map_nil, List.length_cons, List.length_nil, List.replicate, List.cons_append, List.nil_append, List.getElem?_cons_zero, List.getElem?_cons_succ, List.set_cons_zero, List.set_cons_succ, M.bind_assoc, if_true, zl, Nat.reduceAdd, Nat.reduceLeDiff, sOwn, sExt, sFrz, sApp, en, hk]
  have hc : nComp [11] (iAny (eVar 2)) (gN 11) (tV (eBin neM (eCL (L1 reprM) (aCons (eF 1 M__law_told (aCons (eVar 11) aNil)) aNil)) (eCL (L1 reprM) (aCons (eF 1 M__law_due (aCons (eVar 11) aNil)) aNil)))) (eVar 11)
      [.v (.scr ns), .v (.obj 0), .v (.lst fs), z3, .v (.str kp), z5, z6, z7, z8, z9, z10, z11, z12] = .ret [] := by
    have := nComp_pure (vs := [11]) (it := iAny (eVar 2)) (gm := gN 11) (tm := tV (eBin neM (eCL (L1 reprM) (aCons (eF 1 M__law_told (aCons (eVar 11) aNil)) aNil)) (eCL (L1 reprM) (aCons (eF 1 M__law_due (aCons (eVar 11) aNil)) aNil)))) (em := eVar 11)
      (ρ := [.v (.scr ns), .v (.obj 0), .v (.lst fs), z3, .v (.str kp), z5, z6, z7, z8, z9, z10, z11, z12]) (ds := fs) (fun _ => false) id rfl (sz1000 (by omega)) fun d hd => ⟨_, rfl, by
        obtain ⟨y, hy⟩ := allB_repr d
        have fd := (hf d hd).fit
        try simp only [runB, startE, sSeq, sIf, sRet, sSet, sPar, sNil, sDrop, eBin, eUn, eC, eVar, eAnd, eOr, eNot, notD, eF, eCL, L1, L1N, nCL, aCons, aNil, eTup, nLst, eN, tV, tTru, asB, tru, tOrM, tAndM, tNotM, eIf, eSl, pSome, pNo, nUn, M.ret_bind, List.map_cons, List.map_nil, List.length_cons, List.length_nil, List.replicate, List.cons_append, List.nil_append, List.getElem?_cons_zero, List.getElem?_cons_succ, List.set_cons_zero, List.set_cons_succ, M.bind_assoc, if_true, zl, Nat.reduceAdd, Nat.reduceLeDiff, wipeE]
        simp only [told_eq fd, due_eq fd, M.ret_bind, hy, ne_ss, asB], fun h => nomatch h⟩
    rw [this]
    simp
  try simp only [runB, startE, sSeq, sIf, sRet, sSet, sPar, sNil, sDrop, eBin, eUn, eC, eVar, eAnd, eOr, eNot, notD, eF, eCL, L1, L1N, nCL, aCons, aNil, eTup, nLst, eN, tV, tTru, asB, tru, tOrM, tAndM, tNotM, eIf, eSl, pSome, pNo, nUn, M.ret_bind, List.map_cons, List.map_nil, List.length_cons, List.length_nil, List.replicate, List.cons_append, List.nil_append, List.getElem?_cons_zero, List.getElem?_cons_succ, List.set_cons_zero, List.set_cons_succ, M.bind_assoc, if_true, zl, Nat.reduceAdd, Nat.reduceLeDiff, sOwn, sExt, sFrz, sApp, hc, ne_nil0]
  try simp only [runB, startE, sSeq, sIf, sRet, sSet, sPar, sNil, sDrop, eBin, eUn, eC, eVar, eAnd, eOr, eNot, notD, eF, eCL, L1, L1N, nCL, aCons, aNil, eTup, nLst, eN, tV, tTru, asB, tru, tOrM, tAndM, tNotM, eIf, eSl, pSome, pNo, nUn, M.ret_bind, List.map_cons, List.map_nil, List.length_cons, List.length_nil, List.replicate, List.cons_append, List.nil_append, List.getElem?_cons_zero, List.getElem?_cons_succ, List.set_cons_zero, List.set_cons_succ, M.bind_assoc, if_true, zl, Nat.reduceAdd, Nat.reduceLeDiff, sOwn, sExt, sFrz, sApp, hn, ex, named_eq fx, due_eq fx, hq, eq_ss, hk]
  exact Gen.ret rfl
def lawR2 : SM := (sSeq (sApp 2 (eTup (aCons (eTup (aCons (eC (.int 0)) (aCons (eTup (aCons (eTup (aCons (eC (.str "open")) (aCons (eC (.str "if")) aNil))) aNil)) aNil))) (aCons (eTup (aCons (eC (.int 0)) (aCons (eTup (aCons (eTup (aCons (eC (.str "open")) (aCons (eTup (aCons (eC (.str "fun")) (aCons (eC (.str "a")) aNil))) aNil))) aNil)) aNil))) aNil)))) (sSeq (sExt 2 (eN (nLst (aCons (eBin mulM (eTup (aCons (eTup (aCons (eC (.str "end")) aNil)) aNil)) (eC (.int 90))) (aCons (eTup (aCons (eTup (aCons (eC (.int 0)) (aCons (eBin mulM (eTup (aCons (eTup (aCons (eC (.str "stop")) aNil)) aNil)) (eC (.int 420))) aNil))) aNil)) (aCons (eTup (aCons (eTup (aCons (eC (.int 3)) (aCons (eTup (aCons (eTup (aCons (eC (.str "end")) aNil)) aNil)) aNil))) (aCons (eTup (aCons (eC (.int 500)) (aCons (eBin mulM (eTup (aCons (eTup (aCons (eC (.str "end")) aNil)) aNil)) (eC (.int 90))) aNil))) aNil))) (aCons (eTup (aCons (eC (.int 70)) aNil)) aNil))))))) (sSeq (sFor (iR1 (aCons (eC (.int 3)) aNil)) (gN 3) lapG) lawE)))
theorem lawR_eq : lawR = sSeq (sOwn 2 (nComp [3] (iR1 (aCons (eC (.int 16)) aNil)) (gN 3) tYesM (eF 1 M__law_strange (aCons (eVar 1) aNil)))) lawR2 := rfl
theorem gen_lawR2 {ns : List Int} {es : List D} {z3 z4 z5 z6 z7 z8 z9 z10 z11 z12 : Sl} (he : ∀ x ∈ es, It x) (hl : es.length ≤ 16) : Gen (lawR2 (en ns es z3 z4 z5 z6 z7 z8 z9 z10 z11 z12)) fun c => c = .rt (.bl true) := by
  have m1 := mul_rep [D.tup [.str "end"]] 90 ⟨by simp, by decide, by decide, by simp⟩
  have m2 := mul_rep [D.tup [.str "stop"]] 420 ⟨by simp, by decide, by decide, by simp⟩
  have q1 : es.length < sizeLine := by rw [sizeLine_eq]; omega
  unfold lawR2
  try simp only [runB, startE, sSeq, sIf, sRet, sSet, sPar, sNil, sDrop, eBin, eUn, eC, eVar, eAnd, eOr, eNot, notD, eF, eCL, L1, L1N, nCL, aCons, aNil, eTup, nLst, eN, tV, tTru, asB, tru, tOrM, tAndM, tNotM, eIf, eSl, pSome, pNo, nUn, M.ret_bind, List.map_cons, List.map_nil, List.length_cons, List.length_nil, List.replicate, List.cons_append, List.nil_append, List.getElem?_cons_zero, List.getElem?_cons_succ, List.set_cons_zero, List.set_cons_succ, M.bind_assoc, if_true, zl, Nat.reduceAdd, Nat.reduceLeDiff, sOwn, sExt, sFrz, sApp, en, q1, m1, m2]
  rw [if_pos (by rw [List.length_append]; simp only [List.length_cons, List.length_nil]; rw [sizeLine_eq]; omega)]
  try simp only [runB, startE, sSeq, sIf, sRet, sSet, sPar, sNil, sDrop, eBin, eUn, eC, eVar, eAnd, eOr, eNot, notD, eF, eCL, L1, L1N, nCL, aCons, aNil, eTup, nLst, eN, tV, tTru, asB, tru, tOrM, tAndM, tNotM, eIf, eSl, pSome, pNo, nUn, M.ret_bind, List.map_cons, List.map_nil, List.length_cons, List.length_nil, List.replicate, List.cons_append, List.nil_append, List.getElem?_cons_zero, List.getElem?_cons_succ, List.set_cons_zero, List.set_cons_succ, M.bind_assoc, if_true, zl, Nat.reduceAdd, Nat.reduceLeDiff, sOwn, sExt, sFrz, sApp, sFor, iR1]
  rw [rng1_i _ (by decide) (by decide)]
  try simp only [runB, startE, sSeq, sIf, sRet, sSet, sPar, sNil, sDrop, eBin, eUn, eC, eVar, eAnd, eOr, eNot, notD, eF, eCL, L1, L1N, nCL, aCons, aNil, eTup, nLst, eN, tV, tTru, asB, tru, tOrM, tAndM, tNotM, eIf, eSl, pSome, pNo, nUn, M.ret_bind, List.map_cons, List.map_nil, List.length_cons, List.length_nil, List.replicate, List.cons_append, List.nil_append, List.getElem?_cons_zero, List.getElem?_cons_succ, List.set_cons_zero, List.set_cons_succ, M.bind_assoc, if_true, zl, Nat.reduceAdd, Nat.reduceLeDiff, sOwn, sExt, sFrz, sApp]
  refine Gen.bind (gen_laps (ns := ns) (rangeD 0 (3 : Int).toNat) _ _ _ _ _ _ _ _ _ _ _ (fun l hl' => ?_) (fun x hx => ?_) ?_) fun c ⟨fs, y3, y4, y5, y6, y7, y8, y9, y10, y11, y12, e, h1, h2⟩ => ?_
  · unfold rangeD at hl'
    obtain ⟨i, _, rfl⟩ := List.mem_map.mp hl'
    exact ⟨_, rfl⟩
  · simp only [List.mem_append, List.mem_cons, List.not_mem_nil, or_false] at hx
    rcases hx with (hx | e) | e | e | e | e
    · exact he x hx
    · subst e; exact it_way
    · subst e; exact it_end
    · subst e; exact it_put
    · subst e; exact it_two
    · subst e; exact it_num
  · rw [rangeD_len]
    simp only [List.length_append, List.length_cons, List.length_nil]
    have : (3 : Int).toNat = 3 := rfl
    omega
  · subst e
    rw [rangeD_len] at h2
    simp only [List.length_append, List.length_cons, List.length_nil] at h2
    have h3 : (3 : Int).toNat = 3 := rfl
    exact gen_end h1 (by omega) (fun e => by subst e; simp only [List.length_nil] at h2; omega)
theorem gen_lawR (ns : List Int) : Gen (lawR [.v (.scr ns), .v (.obj 0), .no, .no, .no, .no, .no, .no, .no, .no, .no, .no, .no]) fun c => c = .rt (.bl true) := by
  rw [lawR_eq]
  try simp only [runB, startE, sSeq, sIf, sRet, sSet, sPar, sNil, sDrop, eBin, eUn, eC, eVar, eAnd, eOr, eNot, notD, eF, eCL, L1, L1N, nCL, aCons, aNil, eTup, nLst, eN, tV, tTru, asB, tru, tOrM, tAndM, tNotM, eIf, eSl, pSome, pNo, nUn, M.ret_bind, List.map_cons, List.map_nil, List.length_cons, List.length_nil, List.replicate, List.cons_append, List.nil_append, List.getElem?_cons_zero, List.getElem?_cons_succ, List.set_cons_zero, List.set_cons_succ, M.bind_assoc, if_true, zl, Nat.reduceAdd, Nat.reduceLeDiff, sOwn, sExt, sFrz, sApp]
  refine Gen.bind (gen_nCompL (P := Ty 0 4 700) (L := fun n => n ≤ 16) ?_) fun es ⟨eL, hE⟩ => ?_
  · unfold iR1
    try simp only [runB, startE, sSeq, sIf, sRet, sSet, sPar, sNil, sDrop, eBin, eUn, eC, eVar, eAnd, eOr, eNot, notD, eF, eCL, L1, L1N, nCL, aCons, aNil, eTup, nLst, eN, tV, tTru, asB, tru, tOrM, tAndM, tNotM, eIf, eSl, pSome, pNo, nUn, M.ret_bind, List.map_cons, List.map_nil, List.length_cons, List.length_nil, List.replicate, List.cons_append, List.nil_append, List.getElem?_cons_zero, List.getElem?_cons_succ, List.set_cons_zero, List.set_cons_succ, M.bind_assoc, if_true, zl, Nat.reduceAdd, Nat.reduceLeDiff, sOwn, sExt, sFrz, sApp]
    rw [rng1_i _ (by decide) (by decide)]
    refine Gen.ret ⟨by rw [rangeD_len]; decide, fun d hd => ⟨_, rfl, ?_⟩⟩
    try simp only [runB, startE, sSeq, sIf, sRet, sSet, sPar, sNil, sDrop, eBin, eUn, eC, eVar, eAnd, eOr, eNot, notD, eF, eCL, L1, L1N, nCL, aCons, aNil, eTup, nLst, eN, tV, tTru, asB, tru, tOrM, tAndM, tNotM, eIf, eSl, pSome, pNo, nUn, M.ret_bind, List.map_cons, List.map_nil, List.length_cons, List.length_nil, List.replicate, List.cons_append, List.nil_append, List.getElem?_cons_zero, List.getElem?_cons_succ, List.set_cons_zero, List.set_cons_succ, M.bind_assoc, if_true, zl, Nat.reduceAdd, Nat.reduceLeDiff, sOwn, sExt, sFrz, sApp, wipeE, gN]
    exact gen_strange
  try simp only [runB, startE, sSeq, sIf, sRet, sSet, sPar, sNil, sDrop, eBin, eUn, eC, eVar, eAnd, eOr, eNot, notD, eF, eCL, L1, L1N, nCL, aCons, aNil, eTup, nLst, eN, tV, tTru, asB, tru, tOrM, tAndM, tNotM, eIf, eSl, pSome, pNo, nUn, M.ret_bind, List.map_cons, List.map_nil, List.length_cons, List.length_nil, List.replicate, List.cons_append, List.nil_append, List.getElem?_cons_zero, List.getElem?_cons_succ, List.set_cons_zero, List.set_cons_succ, M.bind_assoc, if_true, zl, Nat.reduceAdd, Nat.reduceLeDiff, sOwn, sExt, sFrz, sApp]
  exact gen_lawR2 (fun x hx => (hE x hx).it) eL
/-! ## the feed -/
theorem feed_eq (ns : List Int) : M__law_feed [.scr ns] = .get fun S => .put (S ++ [.feed]) (.ret (.obj S.length)) := by
  have hs : sliceM none (some 63) (.scr ns) = .ret (.lst ((ns.take 63).map D.int)) := by
    show M.ret (D.lst (cutL (ns.map D.int) none (some 63))) = _
    rw [cut_to _ 63 (by decide), List.map_take]; rfl
  have hc : nComp [1] (iAny (eSl (eVar 0) pNo (pSome (eC (.int 63))))) (gN 1) tYesM (eCL (L1 intM) (aCons (eVar 1) aNil)) [.v (.scr ns), .no] = .ret (((ns.take 63).map D.int).map id) := by
    refine nComp_map id ?_ ?_ fun d hd => ⟨_, rfl, ?_⟩
    · try simp only [runB, startE, sSeq, sIf, sRet, sSet, sPar, sNil, sDrop, eBin, eUn, eC, eVar, eAnd, eOr, eNot, notD, eF, eCL, L1, L1N, nCL, aCons, aNil, eTup, nLst, eN, tV, tTru, asB, tru, tOrM, tAndM, tNotM, eIf, eSl, pSome, pNo, nUn, M.ret_bind, List.map_cons, List.map_nil, List.length_cons, List.length_nil, List.replicate, List.cons_append, List.nil_append, List.getElem?_cons_zero, List.getElem?_cons_succ, List.set_cons_zero, List.set_cons_succ, M.bind_assoc, if_true, zl, Nat.reduceAdd, Nat.reduceLeDiff, iAny, hs]
      rfl
    · rw [List.length_map, List.length_take]
      exact sz1000 (by omega)
    · obtain ⟨i, _, rfl⟩ := List.mem_map.mp hd
      rfl
  rw [List.map_id] at hc
  unfold M__law_feed b__law_feed
  try simp only [runB, startE, sSeq, sIf, sRet, sSet, sPar, sNil, sDrop, eBin, eUn, eC, eVar, eAnd, eOr, eNot, notD, eF, eCL, L1, L1N, nCL, aCons, aNil, eTup, nLst, eN, tV, tTru, asB, tru, tOrM, tAndM, tNotM, eIf, eSl, pSome, pNo, nUn, M.ret_bind, List.map_cons, List.map_nil, List.length_cons, List.length_nil, List.replicate, List.cons_append, List.nil_append, List.getElem?_cons_zero, List.getElem?_cons_succ, List.set_cons_zero, List.set_cons_succ, M.bind_assoc, if_true, zl, Nat.reduceAdd, Nat.reduceLeDiff, eFeed, hc, intsOf_int]
  rfl
theorem law_true (ns : List Int) : wp (M_law [.scr ns]) [] (fun d _ => d = .bl true) (fun _ _ => False) := by
  have h := (gen_lawR ns).run
  have e : M_law [.scr ns] = (M__law_feed [.scr ns] >>= fun d => lawR [.v (.scr ns), .v d, .no, .no, .no, .no, .no, .no, .no, .no, .no, .no, .no]) >>= fun c => match c with
    | .rt d => .ret d
    | .nx _ => .ret .non
    | _ => .bad := by
    unfold M_law runB
    rw [law_eqR]
    try simp only [runB, startE, sSeq, sIf, sRet, sSet, sPar, sNil, sDrop, eBin, eUn, eC, eVar, eAnd, eOr, eNot, notD, eF, eCL, L1, L1N, nCL, aCons, aNil, eTup, nLst, eN, tV, tTru, asB, tru, tOrM, tAndM, tNotM, eIf, eSl, pSome, pNo, nUn, M.ret_bind, List.map_cons, List.map_nil, List.length_cons, List.length_nil, List.replicate, List.cons_append, List.nil_append, List.getElem?_cons_zero, List.getElem?_cons_succ, List.set_cons_zero, List.set_cons_succ, M.bind_assoc, if_true, zl, Nat.reduceAdd, Nat.reduceLeDiff]
    all_goals rfl
  rw [e, feed_eq, wp_b, wp_b, wp_get, wp_put, wp_ret]
  refine wp_mono h (fun c S ⟨_, q⟩ => ?_) fun _ _ z => z
  subst q
  exact rfl
end G
theorem PySem.Challenge.cw_surelywrong_k01_kinds_told_holds : PySem.Challenge.rw_surelywrong_k01_kinds_told.Holds :=
  G.holds_of fun ns _ => G.law_true ns
