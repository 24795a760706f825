import PyProof.Rows.All
import Wide.All
import OpenK.AllK
import Wide.FinOn
import HandS.ForMost
import HandS.More
import HandS.WordsExc
import HandS.Exc
import HandS.TryOnly
import HandS.TryMany
import HandS.ExcInit
import HandS.Star
import HandS.Defaults
import HandS.ClsMeth
import HandS.Property
import HandS.IsInst
import HandS.Wide
import HandS.HeadHook1
import HandS.HeadHook2
import HandS.TupAny
import HandS.Style
import HandS.Codes
import HandS.Slots
import HandS.SlotsOwn
import KE.KOpsOwn
import HandS.Lambda
import HandS.RaiseMore
import HandS.WideBits
import PyProof.ReprRoads
import PyProof.ReprText
import HandS.HeadNt
import HandS.FStr
import HandS.HotCalls
import HandS.ExcField
import OpenK.KOps
import HandS.HeadHook4
import HandS.Words
import HandS.EndTab
import KE.KStateDown
import HandS.Head0
import HandS.Head1
import HandS.Head2
import HandS.HeadEnd
import PySem.Challenge.RW_fademodes_k13_whole_moves_behind_one_ano
set_option Elab.async false
set_option linter.all false
set_option maxRecDepth 100000
set_option maxHeartbeats 4000000
/-! DL: values without a heap (D), how they stand in the abstract heap (Rep), and lifted readings. -/
namespace DL
open PySem PySem.Spec PyProof.Rows L2

/-- a value, its parts written out -/
inductive D where
  | non | bl (b : Bool) | int (i : Int) | str (s : Str) | ty (n : String)
  | tup (ds : List D) | lst (ds : List D)
  | obj (c : Str) (fs : List (Str × D))
  | cls (c : Str)
  | dct0
  | rng

/-- a list of two numbers, the first not negative -/
def RngO (o : HO) : Prop := ∃ x y : Int, o = .lst [.int x, .int y] ∧ 0 ≤ x
def RngOk (H : Hp) (rg : Addr) : Prop := ∃ o, H rg = some o ∧ RngO o

/-- what the heap may become where rg alone is written (and tables of code grow) -/
structure Ext (T : Hp → Prop) (rg : Addr) (H H' : Hp) : Prop where
  keep : ∀ b o, b ≠ rg → (∀ ps, o ≠ .tbl ps) → H b = some o → H' b = some o
  rng : ∀ o, H rg = some o → ∃ o', H' rg = some o' ∧ (RngO o → RngO o') ∧ ((∀ ps, o ≠ .tbl ps) → ∀ ps, o' ≠ .tbl ps)
  tab : T H → T H'
  there : ∀ b o, (∀ ps, o ≠ .tbl ps) → H b = some o → ∃ o', H' b = some o' ∧ ∀ ps, o' ≠ .tbl ps
/-- nothing but a table of code may stand there -/
def Fr0 (H : Hp) (p : Addr) : Prop := ∀ o, H p = some o → ∃ ps, o = .tbl ps
theorem Fr0.of {H : Hp} {p : Addr} (h : H p = none) : Fr0 H p := fun o e => by rw [h] at e; cases e
variable {T : Hp → Prop} {K : PySem.W.Frag} {rg : Addr} {M M' : List Addr} {H H' H0 H1 H2 H3 : Hp}
theorem Ext.refl (H : Hp) : Ext T rg H H := ⟨fun _ _ _ _ h => h, fun o h => ⟨o, h, fun z => z, fun z => z⟩, fun h => h, fun _ o n h => ⟨o, h, n⟩⟩
theorem Ext.free (e : Ext T rg H H') {b : Addr} (h : H' b = none) : Fr0 H b := fun o q => Classical.byContradiction fun n => by
  obtain ⟨o', e', _⟩ := e.there b o (fun ps z => n ⟨ps, z⟩) q
  rw [h] at e'; cases e'
theorem Fr0.ne {H : Hp} {p b : Addr} {o : HO} (f : Fr0 H p) (nt : ∀ ps, o ≠ .tbl ps) (e : H b = some o) : b ≠ p := fun z => by
  obtain ⟨ps, q⟩ := f o (z ▸ e)
  exact nt ps q
theorem Ext.trans (a : Ext T rg H1 H2) (b : Ext T rg H2 H3) : Ext T rg H1 H3 :=
  ⟨fun c o h n q => b.keep c o h n (a.keep c o h n q), fun o h => by
    obtain ⟨o1, h1, f1, g1⟩ := a.rng o h
    obtain ⟨o2, h2, f2, g2⟩ := b.rng o1 h1
    exact ⟨o2, h2, fun z => f2 (f1 z), fun z => g2 (g1 z)⟩, fun h => b.tab (a.tab h), fun c o n h => let ⟨o1, h1, n1⟩ := a.there c o n h; b.there c o1 n1 h1⟩
/-- T stays where all that is tracked stays -/
def TOk (T : Hp → Prop) : Prop := ∀ H H' : Hp, (∀ b o, H b = some o → (H' b = some o ∨ ((∀ ps, o ≠ .tbl ps) ∧ ∀ φ, o ≠ .ext φ))) → T H → T H'

/-- a tuple that stands: tracked or locked outside of M, or one of the module's own -/
def TupR (K : PySem.W.Frag) (M : List Addr) (H : Hp) (p : Addr) (vs : List V) : Prop := (p ∉ M ∧ Rd H p (.tup vs)) ∨
  ∃ (o : Obj) (its : Array Value) (n : Nat), K.lookup p = some o ∧ o.cls = .type "tuple" ∧ o.data = .seq its n ∧ its.size ≤ sizeLine ∧ Vals vs its.toList
theorem TupR.sq {K : PySem.W.Frag} {M : List Addr} {H : Hp} {p : Addr} {vs : List V} (h : TupR K M H p vs) : SqT K H p vs := h.imp And.right id
mutual
inductive Rep (K : PySem.W.Frag) (rg : Addr) (M : List Addr) (H : Hp) : D → V → Prop
  | non : Rep K rg M H .non .non
  | bl (b : Bool) : Rep K rg M H (.bl b) (.bl b)
  | int (i : Int) : Rep K rg M H (.int i) (.int i)
  | str (s : Str) : Rep K rg M H (.str s) (.str s)
  | ty (n : String) : Rep K rg M H (.ty n) (.ty n)
  | tup {ds : List D} {p : Addr} {vs : List V} : TupR K M H p vs → Reps K rg M H ds vs → Rep K rg M H (.tup ds) (.ref p)
  | lst {ds : List D} {p : Addr} {vs : List V} : p ∉ M → H p = some (.lst vs) → Reps K rg M H ds vs → Rep K rg M H (.lst ds) (.ref p)
  | obj {c : Str} {fs : List (Str × D)} {p dx : Addr} {vs : List (Str × V)} : p ∉ M → H p = some (.ins (He.ga K c) dx vs) → RepF K rg M H fs vs → Rep K rg M H (.obj c fs) (.ref p)
  | cls (c : Str) : Rep K rg M H (.cls c) (.ref (He.ga K c))
  | dct0 {p : Addr} : p ∉ M → H p = some (.dK []) → Rep K rg M H .dct0 (.ref p)
  | rng : RngOk H rg → Rep K rg M H .rng (.ref rg)
inductive Reps (K : PySem.W.Frag) (rg : Addr) (M : List Addr) (H : Hp) : List D → List V → Prop
  | nil : Reps K rg M H [] []
  | cons {d : D} {v : V} {ds : List D} {vs : List V} : Rep K rg M H d v → Reps K rg M H ds vs → Reps K rg M H (d :: ds) (v :: vs)
inductive RepF (K : PySem.W.Frag) (rg : Addr) (M : List Addr) (H : Hp) : List (Str × D) → List (Str × V) → Prop
  | nil : RepF K rg M H [] []
  | cons {x : Str} {d : D} {v : V} {fs : List (Str × D)} {vs : List (Str × V)} : Rep K rg M H d v → RepF K rg M H fs vs → RepF K rg M H ((x, d) :: fs) ((x, v) :: vs)
end

/-- all but M stands -/
structure ExtM (rg : Addr) (M : List Addr) (H H' : Hp) : Prop where
  keep : ∀ b o, b ∉ M → (∀ ps, o ≠ .tbl ps) → H b = some o → H' b = some o
  rng : ∀ o, H rg = some o → ∃ o', H' rg = some o' ∧ (RngO o → RngO o')
theorem Ext.m (e : Ext T rg H H') (h : rg ∈ M) : ExtM rg M H H' := ⟨fun b o n nt q => e.keep b o (fun z => n (z ▸ h)) nt q, fun o q => let ⟨o', h', g, _⟩ := e.rng o q; ⟨o', h', g⟩⟩
theorem RngOk.keep (e : ExtM rg M H H') (h : RngOk H rg) : RngOk H' rg := by
  obtain ⟨o, h, f⟩ := h
  obtain ⟨o', h', g⟩ := e.rng o h
  exact ⟨o', h', g f⟩
theorem rd_keep {p : Addr} {u : HO} (nt : ∀ ps, u ≠ .tbl ps) (e : ExtM rg M H H') (n : p ∉ M) (r : Rd H p u) : Rd H' p u := by
  rcases r with r | ⟨o, r⟩
  · exact .inl (e.keep p u n nt r)
  · exact .inr ⟨o, e.keep p _ n (fun ps z => nomatch z) r⟩
theorem sqL_keep {p : Addr} {vs : List V} (e : ExtM rg M H H') (n : p ∉ M) (h : SqL K H p vs) : SqL K H' p vs := h.imp (rd_keep (fun ps z => nomatch z) e n) id
theorem sqT_keep {p : Addr} {vs : List V} (e : ExtM rg M H H') (n : p ∉ M) (h : SqT K H p vs) : SqT K H' p vs := h.imp (rd_keep (fun ps z => nomatch z) e n) id

theorem tup_keep {p : Addr} {vs : List V} (e : ExtM rg M H H') (h : TupR K M H p vs) : TupR K M H' p vs := h.imp (fun ⟨n, r⟩ => ⟨n, rd_keep (fun ps z => nomatch z) e n r⟩) id
theorem tup_anti {p : Addr} {vs : List V} (s : ∀ a, a ∈ M' → a ∈ M) (h : TupR K M H p vs) : TupR K M' H p vs := h.imp (fun ⟨n, r⟩ => ⟨fun z => n (s _ z), r⟩) id
theorem tup_fresh {p x : Addr} {vs : List V} (hx : H x = none) (h : TupR K M H p vs) : TupR K (x :: M) H p vs := h.imp (fun ⟨n, r⟩ => ⟨fun z => by
  rcases List.mem_cons.mp z with z | z
  · subst z
    rcases r with r | ⟨o, r⟩ <;> (rw [hx] at r; cases r)
  · exact n z, r⟩) id
theorem nm_fresh {p x : Addr} {o : HO} (hx : H x = none) (n : p ∉ M) (h : H p = some o) : p ∉ x :: M := fun z => by
  rcases List.mem_cons.mp z with z | z
  · subst z; rw [hx] at h; cases h
  · exact n z
theorem lst_keep {p : Addr} {vs : List V} (e : ExtM rg M H H') (n : p ∉ M) (h : H p = some (.lst vs)) : H' p = some (.lst vs) := e.keep _ _ n (fun ps z => nomatch z) h
theorem ins_keep {p C dx : Addr} {vs : List (Str × V)} (e : ExtM rg M H H') (n : p ∉ M) (h : H p = some (.ins C dx vs)) : H' p = some (.ins C dx vs) := e.keep _ _ n (fun ps z => nomatch z) h
theorem dK_keep {p : Addr} {vs : List (Key × V)} (e : ExtM rg M H H') (n : p ∉ M) (h : H p = some (.dK vs)) : H' p = some (.dK vs) := e.keep _ _ n (fun ps z => nomatch z) h
mutual
theorem Rep.mono {K : PySem.W.Frag} {rg : Addr} {M : List Addr} {H H' : Hp} (e : ExtM rg M H H') {d : D} {v : V} (r : Rep K rg M H d v) : Rep K rg M H' d v := match r with
  | .non => .non
  | .bl b => .bl b
  | .int i => .int i
  | .str s => .str s
  | .ty n => .ty n
  | .tup h r => .tup (tup_keep e h) (Reps.mono e r)
  | .lst n h r => .lst n (lst_keep e n h) (Reps.mono e r)
  | .obj n h r => .obj n (ins_keep e n h) (RepF.mono e r)
  | .cls c => .cls c
  | .dct0 n h => .dct0 n (dK_keep e n h)
  | .rng h => .rng (h.keep e)
theorem Reps.mono {K : PySem.W.Frag} {rg : Addr} {M : List Addr} {H H' : Hp} (e : ExtM rg M H H') {ds : List D} {vs : List V} (r : Reps K rg M H ds vs) : Reps K rg M H' ds vs := match r with
  | .nil => .nil
  | .cons r t => .cons (Rep.mono e r) (Reps.mono e t)
theorem RepF.mono {K : PySem.W.Frag} {rg : Addr} {M : List Addr} {H H' : Hp} (e : ExtM rg M H H') {ds : List (Str × D)} {vs : List (Str × V)} (r : RepF K rg M H ds vs) : RepF K rg M H' ds vs := match r with
  | .nil => .nil
  | .cons r t => .cons (Rep.mono e r) (RepF.mono e t)
end
mutual
theorem Rep.anti {K : PySem.W.Frag} {rg : Addr} {M M' : List Addr} {H : Hp} (s : ∀ a, a ∈ M' → a ∈ M) {d : D} {v : V} (r : Rep K rg M H d v) : Rep K rg M' H d v := match r with
  | .non => .non
  | .bl b => .bl b
  | .int i => .int i
  | .str z => .str z
  | .ty n => .ty n
  | .tup h r => .tup (tup_anti s h) (Reps.anti s r)
  | .lst n h r => .lst (fun z => n (s _ z)) h (Reps.anti s r)
  | .obj n h r => .obj (fun z => n (s _ z)) h (RepF.anti s r)
  | .cls c => .cls c
  | .dct0 n h => .dct0 (fun z => n (s _ z)) h
  | .rng h => .rng h
theorem Reps.anti {K : PySem.W.Frag} {rg : Addr} {M M' : List Addr} {H : Hp} (s : ∀ a, a ∈ M' → a ∈ M) {ds : List D} {vs : List V} (r : Reps K rg M H ds vs) : Reps K rg M' H ds vs := match r with
  | .nil => .nil
  | .cons r t => .cons (Rep.anti s r) (Reps.anti s t)
theorem RepF.anti {K : PySem.W.Frag} {rg : Addr} {M M' : List Addr} {H : Hp} (s : ∀ a, a ∈ M' → a ∈ M) {ds : List (Str × D)} {vs : List (Str × V)} (r : RepF K rg M H ds vs) : RepF K rg M' H ds vs := match r with
  | .nil => .nil
  | .cons r t => .cons (Rep.anti s r) (RepF.anti s t)
end
mutual
theorem Rep.fresh {K : PySem.W.Frag} {rg : Addr} {M : List Addr} {H : Hp} {x : Addr} (hx : H x = none) {d : D} {v : V} (r : Rep K rg M H d v) : Rep K rg (x :: M) H d v := match r with
  | .non => .non
  | .bl b => .bl b
  | .int i => .int i
  | .str z => .str z
  | .ty n => .ty n
  | .tup h r => .tup (tup_fresh hx h) (Reps.fresh hx r)
  | .lst n h r => .lst (nm_fresh hx n h) h (Reps.fresh hx r)
  | .obj n h r => .obj (nm_fresh hx n h) h (RepF.fresh hx r)
  | .cls c => .cls c
  | .dct0 n h => .dct0 (nm_fresh hx n h) h
  | .rng h => .rng h
theorem Reps.fresh {K : PySem.W.Frag} {rg : Addr} {M : List Addr} {H : Hp} {x : Addr} (hx : H x = none) {ds : List D} {vs : List V} (r : Reps K rg M H ds vs) : Reps K rg (x :: M) H ds vs := match r with
  | .nil => .nil
  | .cons r t => .cons (Rep.fresh hx r) (Reps.fresh hx t)
theorem RepF.fresh {K : PySem.W.Frag} {rg : Addr} {M : List Addr} {H : Hp} {x : Addr} (hx : H x = none) {ds : List (Str × D)} {vs : List (Str × V)} (r : RepF K rg M H ds vs) : RepF K rg (x :: M) H ds vs := match r with
  | .nil => .nil
  | .cons r t => .cons (Rep.fresh hx r) (RepF.fresh hx t)
end
theorem Reps.length : ∀ {ds : List D} {vs : List V}, Reps K rg M H ds vs → ds.length = vs.length
  | _, _, .nil => rfl
  | _, _, .cons _ t => congrArg (· + 1) (Reps.length t)
theorem Reps.append : ∀ {ds ds' : List D} {vs vs' : List V}, Reps K rg M H ds vs → Reps K rg M H ds' vs' → Reps K rg M H (ds ++ ds') (vs ++ vs')
  | _, _, _, _, .nil, q => q
  | _, _, _, _, .cons r t, q => .cons r (Reps.append t q)
theorem Reps.get : ∀ {ds : List D} {vs : List V} {i : Nat} {v : V}, Reps K rg M H ds vs → vs[i]? = some v → ∃ d, ds[i]? = some d ∧ Rep K rg M H d v
  | _, _, i, _, .nil, h => by simp at h
  | _, _, 0, _, .cons r _, h => by simp at h; subst h; exact ⟨_, rfl, r⟩
  | _, _, i + 1, _, .cons _ t, h => by
    obtain ⟨d, e, r⟩ := Reps.get (i := i) t (by simpa using h)
    exact ⟨d, by simpa using e, r⟩
theorem Reps.get' : ∀ {ds : List D} {vs : List V} {i : Nat} {d : D}, Reps K rg M H ds vs → ds[i]? = some d → ∃ v, vs[i]? = some v ∧ Rep K rg M H d v
  | _, _, i, _, .nil, h => by simp at h
  | _, _, 0, _, .cons r _, h => by simp at h; subst h; exact ⟨_, rfl, r⟩
  | _, _, i + 1, _, .cons _ t, h => by
    obtain ⟨d, e, r⟩ := Reps.get' (i := i) t (by simpa using h)
    exact ⟨d, by simpa using e, r⟩
theorem RepF.lookup : ∀ {fs : List (Str × D)} {vs : List (Str × V)} {f : Str} {d : D}, RepF K rg M H fs vs → fs.lookup f = some d → ∃ v, vs.lookup f = some v ∧ Rep K rg M H d v
  | _, _, f, _, .nil, h => by simp at h
  | _, _, f, d, .cons (x := x) (d := d0) (v := v0) r t, h => by
    by_cases e : f = x
    · subst e
      simp at h; subst h
      exact ⟨_, by simp, r⟩
    · have e' : (f == x) = false := by simpa using e
      simp only [List.lookup, e'] at h ⊢
      exact RepF.lookup t h
theorem RepF.none : ∀ {fs : List (Str × D)} {vs : List (Str × V)} {f : Str}, RepF K rg M H fs vs → fs.lookup f = none → vs.lookup f = none
  | _, _, f, .nil, _ => rfl
  | _, _, f, .cons (x := x) r t, h => by
    by_cases e : f = x
    · subst e; simp at h
    · have e' : (f == x) = false := by simpa using e
      simp only [List.lookup, e'] at h ⊢
      exact RepF.none t h
theorem RepF.len : ∀ {fs : List (Str × D)} {vs : List (Str × V)}, RepF K rg M H fs vs → fs.length = vs.length
  | _, _, .nil => rfl
  | _, _, .cons _ t => congrArg (· + 1) (RepF.len t)
/-- a value is determined but for where it stands -/
theorem Rep.int_v {i : Int} {v : V} (r : Rep K rg M H (.int i) v) : v = .int i := by cases r; rfl
theorem Rep.bl_v {i : Bool} {v : V} (r : Rep K rg M H (.bl i) v) : v = .bl i := by cases r; rfl
theorem Rep.str_v {i : Str} {v : V} (r : Rep K rg M H (.str i) v) : v = .str i := by cases r; rfl
theorem Rep.non_v {v : V} (r : Rep K rg M H .non v) : v = .non := by cases r; rfl

/-! ### slots -/
inductive S where
  | no | val (d : D) | own (ds : List D) | new (c : Str) (p : Addr) (fs : List (Str × D))
inductive SlotR (K : PySem.W.Frag) (rg : Addr) (M : List Addr) (H0 H : Hp) : Option V → S → Prop
  | no {o : Option V} : SlotR K rg M H0 H o .no
  | val {d : D} {v : V} : Rep K rg M H d v → SlotR K rg M H0 H (some v) (.val d)
  | own {ds : List D} {p : Addr} {vs : List V} : p ∈ M → p ≠ rg → Fr0 H0 p → H p = some (.lst vs) → Reps K rg M H ds vs → SlotR K rg M H0 H (some (.ref p)) (.own ds)
  | new {c : Str} {fs : List (Str × D)} {p dx : Addr} {vs : List (Str × V)} : p ∈ M → p ≠ rg → Fr0 H0 p → H p = some (.ins (He.ga K c) dx vs) → RepF K rg M H fs vs → SlotR K rg M H0 H (some (.ref p)) (.new c p fs)
inductive Slots (K : PySem.W.Frag) (rg : Addr) (M : List Addr) (H0 H : Hp) : List (Option V) → List S → Prop
  | nil : Slots K rg M H0 H [] []
  | cons {o : Option V} {s : S} {os : List (Option V)} {ss : List S} : SlotR K rg M H0 H o s → Slots K rg M H0 H os ss → Slots K rg M H0 H (o :: os) (s :: ss)
def S.isOwn : S → Bool
  | .own _ => true
  | .new _ _ _ => true
  | _ => false
/-- owned things stand apart -/
def Apart (σ : List (Option V)) (ρ : List S) : Prop := ∀ (i j : Nat) (s t : S) (v : V), i ≠ j → ρ[i]? = some s → s.isOwn = true → ρ[j]? = some t → t.isOwn = true → σ[i]? = some (some v) → σ[j]? ≠ some (some v)
theorem Slots.length : ∀ {σ : List (Option V)} {ρ : List S}, Slots K rg M H0 H σ ρ → σ.length = ρ.length
  | _, _, .nil => rfl
  | _, _, .cons _ t => congrArg (· + 1) (Slots.length t)
theorem Slots.get : ∀ {σ : List (Option V)} {ρ : List S} {i : Nat} {s : S}, Slots K rg M H0 H σ ρ → ρ[i]? = some s → ∃ o, σ[i]? = some o ∧ SlotR K rg M H0 H o s
  | _, _, i, _, .nil, h => by simp at h
  | _, _, 0, _, .cons r _, h => by simp at h; subst h; exact ⟨_, rfl, r⟩
  | _, _, i + 1, _, .cons _ t, h => by
    obtain ⟨d, e, r⟩ := Slots.get (i := i) t (by simpa using h)
    exact ⟨d, by simpa using e, r⟩
theorem Slots.set : ∀ {σ : List (Option V)} {ρ : List S} {o : Option V} {s : S} (i : Nat), Slots K rg M H0 H σ ρ → SlotR K rg M H0 H o s → Slots K rg M H0 H (σ.set i o) (ρ.set i s)
  | _, _, _, _, _, .nil, _ => .nil
  | _, _, _, _, 0, .cons _ t, q => .cons q t
  | _, _, _, _, i + 1, .cons r t, q => .cons r (Slots.set i t q)
theorem SlotR.mono (e : Ext T rg H H') (hm : rg ∈ M) {o : Option V} {s : S} (r : SlotR K rg M H0 H o s) : SlotR K rg M H0 H' o s := by
  cases r with
  | no => exact .no
  | val r => exact .val (r.mono (e.m hm))
  | own a b z c d => exact .own a b z (e.keep _ _ b (fun ps z => nomatch z) c) (d.mono (e.m hm))
  | new a b z c d => exact .new a b z (e.keep _ _ b (fun ps z => nomatch z) c) (d.mono (e.m hm))
theorem Slots.mono (e : Ext T rg H H') (hm : rg ∈ M) : ∀ {σ : List (Option V)} {ρ : List S}, Slots K rg M H0 H σ ρ → Slots K rg M H0 H' σ ρ
  | _, _, .nil => .nil
  | _, _, .cons r t => .cons (r.mono e hm) (Slots.mono e hm t)

def Live (H : Hp) (M : List Addr) : Prop := ∀ a ∈ M, ∃ o, H a = some o ∧ ∀ ps, o ≠ .tbl ps
theorem Live.mono (e : Ext T rg H H') (l : Live H M) : Live H' M := fun a ha => by
  obtain ⟨o, h, n⟩ := l a ha
  by_cases z : a = rg
  · obtain ⟨o', h', _, g⟩ := e.rng o (z ▸ h)
    exact ⟨o', z ▸ h', g n⟩
  · exact ⟨o, e.keep a o z n h, n⟩
theorem Live.new (l : Live H M) {p : Addr} (h : H p = none) : p ∉ M := fun z => by
  obtain ⟨o, q, _⟩ := l p z
  rw [h] at q; cases q
end DL
namespace DL
open PySem PySem.Spec PyProof.Rows L2

/-- what stays the same through a def's body: T of the heap, where rg is, what may not be named (M0), the heap at the entry -/
structure G where
  T : Hp → Prop
  rg : Addr
  M0 : List Addr
  H0 : Hp
  gh : List (V × D) := []
/-- the state between two steps -/
structure St (g : G) (K : PySem.W.Frag) (M : List Addr) (σ : List (Option V)) (H : Hp) (ρ : List S) : Prop where
  sub : ∀ a ∈ g.M0, a ∈ M
  rg : g.rg ∈ g.M0
  live : Live H M
  ext : Ext g.T g.rg g.H0 H
  t : g.T H
  sl : Slots K g.rg M g.H0 H σ ρ
  ap : Apart σ ρ
  own : ∀ a ∈ M, a ∈ g.M0 ∨ Fr0 g.H0 a
  gh : ∀ q ∈ g.gh, Rep K g.rg M H q.2 q.1
abbrev WE := List S → (D → Prop) → Prop
abbrev WT := List S → (Bool → Prop) → Prop
abbrev WA := List S → (List D → Prop) → Prop
structure EndsD where
  nx : List S → Prop
  rt : D → Prop
  bk : List S → Prop := fun _ => False
  ct : List S → Prop := fun _ => False
abbrev WS := EndsD → List S → Prop

def liftE (g : G) (K : PySem.W.Frag) (w : WE) : TE := fun σ H Q => ∃ M ρ P, St g K M σ H ρ ∧ w ρ P ∧ ∀ d, P d → ∀ H' v, Ext g.T g.rg H H' → Rep K g.rg M H' d v → Q v H'
def liftT (g : G) (K : PySem.W.Frag) (w : WT) : TT := fun σ H Q => ∃ M ρ P, St g K M σ H ρ ∧ w ρ P ∧ ∀ b, P b → ∀ H', Ext g.T g.rg H H' → Q b H'
def liftA (g : G) (K : PySem.W.Frag) (w : WA) : TA := fun σ H Q => ∃ M ρ P, St g K M σ H ρ ∧ w ρ P ∧ ∀ ds, P ds → ∀ H' vs, Ext g.T g.rg H H' → Reps K g.rg M H' ds vs → Q vs H'
structure LiftD (g : G) (K : PySem.W.Frag) (D : Ends) (E : EndsD) : Prop where
  nx : ∀ ρ', E.nx ρ' → ∀ σ' H' M', St g K M' σ' H' ρ' → D.nx σ' H'
  rt : ∀ d, E.rt d → ∀ H' v, Ext g.T g.rg g.H0 H' → Rep K g.rg g.M0 H' d v → D.rt v H'
  bk : ∀ ρ', E.bk ρ' → ∀ σ' H' M', St g K M' σ' H' ρ' → D.bk σ' H'
  ct : ∀ ρ', E.ct ρ' → ∀ σ' H' M', St g K M' σ' H' ρ' → D.ct σ' H'
def liftS (g : G) (K : PySem.W.Frag) (w : WS) : TS := fun D σ H => ∃ M ρ E, St g K M σ H ρ ∧ w E ρ ∧ LiftD g K D E
/-- an exception: an instance's class and fields -/
def RepX (rg : Addr) (K : PySem.W.Frag) (M : List Addr) (H : Hp) (x : D) (cls : Value) (dd : Option Addr) : Prop :=
  ∃ c fs dx vs, x = .obj c fs ∧ cls = .ref (He.ga K c) ∧ dd = some dx ∧ H dx = some (.xd vs) ∧ RepF K rg M H fs vs
def liftX (T : Hp → Prop) (rg : Addr) (M0 : List Addr) (H0 : Hp) (K : PySem.W.Frag) (EW : D → Prop) : XK := fun cls dd H' => ∃ x, RepX rg K M0 H' x cls dd ∧ Ext T rg H0 H' ∧ EW x
/-- a promise over values without a heap -/
abbrev F := List D → (D → Prop) → (D → Prop) → Prop
def spD (T : Hp → Prop) (K : PySem.W.Frag) (f : F) : Sp := fun vs H Q E => ∃ rg M ds P R, rg ∈ M ∧ Live H M ∧ T H ∧ Reps K rg M H ds vs ∧
  f ds P R ∧ (∀ d, P d → ∀ H' v, Ext T rg H H' → Rep K rg M H' d v → Q v H') ∧ (∀ x, R x → ∀ H' cls dd, Ext T rg H H' → RepX rg K M H' x cls dd → E cls dd H')

section
variable {g : G} {K : PySem.W.Frag} {M : List Addr} {σ : L2.St} {H H' : Hp} {ρ : List S}
theorem St.rgM (s : St g K M σ H ρ) : g.rg ∈ M := s.sub _ s.rg
theorem St.mono (s : St g K M σ H ρ) (e : Ext g.T g.rg H H') : St g K M σ H' ρ :=
  ⟨s.sub, s.rg, s.live.mono e, s.ext.trans e, e.tab s.t, s.sl.mono e s.rgM, s.ap, s.own, fun q hq => Rep.mono (e.m s.rgM) (s.gh q hq)⟩
theorem St.set (s : St g K M σ H ρ) {v : V} {d : D} (i : Nat) (r : Rep K g.rg M H d v) : St g K M (σ.set i (some v)) H (ρ.set i (.val d)) := by
  refine ⟨s.sub, s.rg, s.live, s.ext, s.t, s.sl.set i (.val r), ?_, s.own, s.gh⟩
  intro a b t u w hab h1 h2 h3 h4 h5
  have na : a ≠ i := by
    rintro rfl
    by_cases hl : a < ρ.length
    · rw [List.getElem?_set_self hl] at h1; cases h1; cases h2
    · rw [List.getElem?_eq_none (by simp; omega)] at h1; cases h1
  have nb : b ≠ i := by
    rintro rfl
    by_cases hl : b < ρ.length
    · rw [List.getElem?_set_self hl] at h3; cases h3; cases h4
    · rw [List.getElem?_eq_none (by simp; omega)] at h3; cases h3
  rw [List.getElem?_set_ne (Ne.symm na)] at h1 h5
  rw [List.getElem?_set_ne (Ne.symm nb)] at h3 ⊢
  exact s.ap a b t u w hab h1 h2 h3 h4 h5
theorem Rep.monoE {T : Hp → Prop} {rg : Addr} {d : D} {v : V} (e : Ext T rg H H') (h : rg ∈ M) (r : Rep K rg M H d v) : Rep K rg M H' d v := Rep.mono (e.m h) r
theorem Reps.monoE {T : Hp → Prop} {rg : Addr} {d : List D} {v : List V} (e : Ext T rg H H') (h : rg ∈ M) (r : Reps K rg M H d v) : Reps K rg M H' d v := Reps.mono (e.m h) r
/-- a new object -/
theorem Ext.new {T : Hp → Prop} {rg p : Addr} {o : HO} (hT : TOk T) (hp : H p = none) (hr : ∃ o, H rg = some o) : Ext T rg H (upd H p o) := by
  have k : ∀ b u, H b = some u → upd H p o b = some u := fun b u e => by rw [upd_ne (ne_of_none e hp)]; exact e
  exact ⟨fun b u _ _ e => k b u e, fun u e => ⟨u, k _ _ e, fun z => z, fun z => z⟩, hT _ _ fun b u e => .inl (k b u e), fun b u n e => ⟨u, k b u e, n⟩⟩
theorem Live.rg {rg : Addr} (l : Live H M) (h : rg ∈ M) : ∃ o, H rg = some o := let ⟨o, e, _⟩ := l _ h; ⟨o, e⟩
end

section
variable {X : Cx} {g : G} {e : Expr} {es : List Expr} {a b c : Expr} {w wa wb : WE} {pos : Pos}
theorem pe_imp {t t' : TE} (h : PE X e t) (i : ∀ σ H Q, t' σ H Q → t σ H Q) : PE X e t' := ⟨fun pins s σ H Q I q => h.run pins s σ H Q I (i σ H Q q)⟩
theorem pt_imp {t t' : TT} (h : PT X e t) (i : ∀ σ H Q, t' σ H Q → t σ H Q) : PT X e t' := ⟨fun pins s σ H Q I q => h.run pins s σ H Q I (i σ H Q q)⟩
theorem pa_imp {t t' : TA} (h : PA X es t) (i : ∀ σ H Q, t' σ H Q → t σ H Q) : PA X es t' := ⟨fun p pins s σ H Q I q => h.run p pins s σ H Q I (i σ H Q q)⟩
theorem ps_imp {st : Stmt} {t t' : TS} (h : PS X st t) (i : ∀ D σ H, t' D σ H → t D σ H) : PS X st t' := ⟨fun pins s σ H D I q => h.run pins s σ H D I (i D σ H q)⟩
theorem pss_imp {st : List Stmt} {t t' : TS} (h : PSs X st t) (i : ∀ D σ H, t' D σ H → t D σ H) : PSs X st t' := ⟨fun pins s σ H D I q => h.run pins s σ H D I (i D σ H q)⟩

/-! ### values of names, constants -/
def wVar (i : Nat) : WE := fun ρ Q => match ρ[i]? with
  | some (.val d) => Q d
  | _ => False
def wC (d : D) : WE := fun _ Q => Q d
theorem d_var (i : Nat) {x : Str} (hN : X.N[i]? = some x := by rfl) (hv : Vis X.env.scope x := by first | exact Or.inl rfl | exact Or.inr (Or.inl rfl) | exact Or.inr (Or.inr rfl)) (hd : (x == ("__debug__" : Str)) = false := by decide)
    (hcd : (x == ("__classdict__" : Str)) = false := by decide) : PE X (.Name x pos) (liftE g X.K (wVar i)) := by
  refine pe_imp (pe_var (i := i) hN hv hd hcd) ?_
  rintro σ H Q ⟨M, ρ, P, s, h, q⟩
  unfold wVar at h
  split at h
  case h_1 d e =>
    obtain ⟨o, e1, r⟩ := s.sl.get e
    cases r with
    | val r => exact ⟨_, e1, q d h H _ (Ext.refl H) r⟩
  case h_2 => exact h.elim
theorem d_c {v : V} {d : D} (h : PE X e (tC v)) (r : ∀ H M, Rep X.K g.rg M H d v) : PE X e (liftE g X.K (wC d)) := by
  refine pe_imp h ?_
  rintro σ H Q ⟨M, ρ, P, s, h, q⟩
  exact q d h H _ (Ext.refl H) (r H M)
theorem d_int {i j} : PE X (.Constant (.int i) j pos) (liftE g X.K (wC (.int i))) := d_c pe_int fun _ _ => .int i
theorem d_bl {i j} : PE X (.Constant (.bool i) j pos) (liftE g X.K (wC (.bl i))) := d_c pe_bl fun _ _ => .bl i
theorem d_str {i j} : PE X (.Constant (.str i) j pos) (liftE g X.K (wC (.str i))) := d_c pe_str fun _ _ => .str i
theorem d_non {j} : PE X (.Constant .none j pos) (liftE g X.K (wC .non)) := d_c pe_non fun _ _ => .non
/-- a module's name -/
theorem d_glob {x : Str} {v : V} {u : Value} {d : D} (hm : X.mg x = some u) (r : RelV v u) (rd : ∀ H M, Rep X.K g.rg M H d v) (hg : Gl X x := by rfl) (hd : (x == ("__debug__" : Str)) = false := by decide) :
    PE X (.Name x pos) (liftE g X.K (wC d)) := d_c (pe_glob hg hm r hd) rd

/-! ### operators -/
abbrev F2 := D → D → (D → Prop) → Prop
/-- a rule of two values, told over D -/
def liftR (T : Hp → Prop) (K : PySem.W.Frag) (f : F2) : R2 := fun x y H Q => ∃ rg M dx dy P, rg ∈ M ∧ Live H M ∧ T H ∧ Rep K rg M H dx x ∧ Rep K rg M H dy y ∧ f dx dy P ∧ ∀ d, P d → ∀ H' v, Ext T rg H H' → Rep K rg M H' d v → Q v H'
def OpD (X : Cx) (T : Hp → Prop) (o : Value → Value → Sem Value) (f : F2) : Prop := OpR X o (liftR T X.K f)
def wBin (f : F2) (wa wb : WE) : WE := fun ρ Q => wa ρ fun x => wb ρ fun y => f x y Q
/-- two expressions in a row -/
theorem two {f : F2} {wa wb : WE} {σ : L2.St} {H : Hp} {Q : VK} (h : liftE g X.K (wBin f wa wb) σ H Q) : tOp (liftR g.T X.K f) (liftE g X.K wa) (liftE g X.K wb) σ H Q := by
  obtain ⟨M, ρ, P, s, h, q⟩ := h
  refine ⟨M, ρ, _, s, h, fun dx h1 H1 x e1 r1 => ?_⟩
  refine ⟨M, ρ, _, s.mono e1, h1, fun dy h2 H2 y e2 r2 => ?_⟩
  exact ⟨g.rg, M, dx, dy, P, s.rgM, (s.live.mono e1).mono e2, (e1.trans e2).tab s.t, r1.monoE e2 s.rgM, r2, h2, fun d hd H3 v e3 r3 => q d hd H3 v ((e1.trans e2).trans e3) r3⟩
theorem d_op {op : Operator} {f : F2} {wa wb : WE} (ho : OpD X g.T (binaryOp op) f) (ha : PE X a (liftE g X.K wa)) (hb : PE X b (liftE g X.K wb)) : PE X (.BinOp a op b pos) (liftE g X.K (wBin f wa wb)) :=
  pe_imp (pe_op ho ha hb) fun _ _ _ => two
theorem d_cmp {op : CmpOp} {f : F2} {wa wb : WE} (ho : OpD X g.T (compareOp op) f) (ha : PE X a (liftE g X.K wa)) (hb : PE X b (liftE g X.K wb)) (hm : behindInMarks op b = false := by first | exact nomark _ | rfl) : PE X (.Compare a [op] [b] pos) (liftE g X.K (wBin f wa wb)) :=
  pe_imp (pe_cmpR ho ha hb hm) fun _ _ _ => two
/-- a rule that keeps the heap and gives a flat value -/
theorem opd_flat {T : Hp → Prop} {o : Value → Value → Sem Value} {r : R2} {f : F2} (h : OpR X o r) (k : ∀ rg M H dx dy x y P Q, rg ∈ M → Rep X.K rg M H dx x → Rep X.K rg M H dy y → f dx dy P → (∀ d, P d → ∀ v, Rep X.K rg M H d v → Q v H) → r x y H Q) : OpD X T o f := by
  intro pins s σ H x y v u Q I rx ry hq
  obtain ⟨rg, M, dx, dy, P, h1, h2, h3, h4, h5, h6, h7⟩ := hq
  exact h pins s σ H x y v u Q I rx ry (k rg M H dx dy x y P Q h1 h4 h5 h6 fun d hd v r => h7 d hd H v (Ext.refl H) r)
/-- ints -/
def fI (C : Int → Int → Prop) (h : Int → Int → D) : F2
  | .int i, .int j, Q => C i j ∧ Q (h i j)
  | _, _, _ => False
def fI0 (h : Int → Int → D) : F2
  | .int i, .int j, Q => Q (h i j)
  | _, _, _ => False
theorem opd_i {T : Hp → Prop} {o : Value → Value → Sem Value} {C : Int → Int → Prop} {k : Int → Int → Int} (h : OpR X o (rI C fun i j => .int (k i j))) : OpD X T o (fI C fun i j => .int (k i j)) := opd_flat h fun rg M H dx dy x y P Q hm rx ry hf q => by
  unfold fI at hf
  split at hf
  · rw [rx.int_v, ry.int_v]
    exact ⟨_, _, rfl, rfl, hf.1, q _ hf.2 _ (.int _)⟩
  · exact hf.elim
theorem opd_i0 {T : Hp → Prop} {o : Value → Value → Sem Value} {k : Int → Int → Int} (h : OpR X o (rI0 fun i j => .int (k i j))) : OpD X T o (fI0 fun i j => .int (k i j)) := opd_flat h fun rg M H dx dy x y P Q hm rx ry hf q => by
  unfold fI0 at hf
  split at hf
  · rw [rx.int_v, ry.int_v]
    exact ⟨_, _, rfl, rfl, q _ hf _ (.int _)⟩
  · exact hf.elim
theorem opd_b0 {T : Hp → Prop} {o : Value → Value → Sem Value} {k : Int → Int → Bool} (h : OpR X o (rI0 fun i j => .bl (k i j))) : OpD X T o (fI0 fun i j => .bl (k i j)) := opd_flat h fun rg M H dx dy x y P Q hm rx ry hf q => by
  unfold fI0 at hf
  split at hf
  · rw [rx.int_v, ry.int_v]
    exact ⟨_, _, rfl, rfl, q _ hf _ (.bl _)⟩
  · exact hf.elim
end
end DL
namespace DL
open PySem PySem.Spec PyProof.Rows L2
section
variable {K : PySem.W.Frag} {rg : Addr} {M : List Addr} {H : Hp} {T : Hp → Prop} {X : Cx} {g : G}
theorem ext_new (hT : TOk T) (l : Live H M) (hm : rg ∈ M) {p : Addr} {o : HO} (hp : H p = none) : Ext T rg H (upd H p o) := Ext.new hT hp (l.rg hm)
theorem rep_lst {p : Addr} {vs : List V} {ds : List D} (hT : TOk T) (l : Live H M) (hm : rg ∈ M) (hp : H p = none) (r : Reps K rg M H ds vs) : Rep K rg M (upd H p (.lst vs)) (.lst ds) (.ref p) :=
  .lst (l.new hp) upd_same (Reps.mono ((ext_new hT l hm hp).m hm) r)
theorem rep_tup {p : Addr} {vs : List V} {ds : List D} (hT : TOk T) (l : Live H M) (hm : rg ∈ M) (hp : H p = none) (r : Reps K rg M H ds vs) : Rep K rg M (upd H p (.tup vs)) (.tup ds) (.ref p) :=
  .tup (.inl ⟨l.new hp, .inl upd_same⟩) (Reps.mono ((ext_new hT l hm hp).m hm) r)
/-- a rule that gives a new object -/
theorem opd_new {o : Value → Value → Sem Value} {r : R2} {f : F2} (hT : TOk T) (h : OpR X o r)
    (k : ∀ rg M H dx dy x y P Q, rg ∈ M → Live H M → Rep X.K rg M H dx x → Rep X.K rg M H dy y → f dx dy P →
      (∀ d, P d → ∀ v, Rep X.K rg M H d v → Q v H) → (∀ d, P d → ∀ p u, H p = none → Rep X.K rg M (upd H p u) d (.ref p) → Q (.ref p) (upd H p u)) → r x y H Q) : OpD X T o f := by
  intro pins s σ H x y v u Q I rx ry hq
  obtain ⟨rg, M, dx, dy, P, h1, h2, h3, h4, h5, h6, h7⟩ := hq
  exact h pins s σ H x y v u Q I rx ry (k rg M H dx dy x y P Q h1 h2 h4 h5 h6 (fun d hd v r => h7 d hd H v (Ext.refl H) r) fun d hd p u hp r => h7 d hd _ _ (ext_new hT h2 h1 hp) r)
theorem OpD.or {o : Value → Value → Sem Value} {f h : F2} (a : OpD X T o f) (b : OpD X T o h) : OpD X T o (fun x y Q => f x y Q ∨ h x y Q) := by
  intro pins s σ H x y v u Q I rx ry hq
  obtain ⟨rg, M, dx, dy, P, h1, h2, h3, h4, h5, h6, h7⟩ := hq
  rcases h6 with h6 | h6
  · exact a pins s σ H x y v u Q I rx ry ⟨rg, M, dx, dy, P, h1, h2, h3, h4, h5, h6, h7⟩
  · exact b pins s σ H x y v u Q I rx ry ⟨rg, M, dx, dy, P, h1, h2, h3, h4, h5, h6, h7⟩
theorem OpD.imp {o : Value → Value → Sem Value} {f h : F2} (a : OpD X T o f) (k : ∀ x y Q, h x y Q → f x y Q) : OpD X T o h := by
  intro pins s σ H x y v u Q I rx ry hq
  obtain ⟨rg, M, dx, dy, P, h1, h2, h3, h4, h5, h6, h7⟩ := hq
  exact a pins s σ H x y v u Q I rx ry ⟨rg, M, dx, dy, P, h1, h2, h3, h4, h5, k _ _ _ h6, h7⟩
def fCatL : F2
  | .lst a, .lst b, Q => a.length + b.length ≤ sizeLine ∧ Q (.lst (a ++ b))
  | _, _, _ => False
theorem opd_catL (hT : TOk T) : OpD X T (binaryOp .Add) fCatL := opd_new hT op_cat fun rg M H dx dy x y P Q hm l rx ry hf q qn => by
  unfold fCatL at hf
  split at hf
  · cases rx with
    | lst n1 e1 r1 => cases ry with
      | lst n2 e2 r2 =>
        refine ⟨_, _, _, _, rfl, rfl, e1, e2, (by rw [← r1.length, ← r2.length]; exact hf.1), fun p hp => qn _ hf.2 _ _ hp (rep_lst hT l hm hp (r1.append r2))⟩
  · exact hf.elim
def fCatT : F2
  | .tup a, .tup b, Q => a.length + b.length ≤ sizeLine ∧ Q (.tup (a ++ b))
  | _, _, _ => False
theorem reps_nil {ds : List D} (r : Reps K rg M H ds []) : ds = [] := by cases r; rfl
theorem opd_catT (hT : TOk T) : OpD X T (binaryOp .Add) fCatT := opd_new hT op_catA fun rg M H dx dy x y P Q hm l rx ry hf q qn => by
  unfold fCatT at hf
  split at hf
  · have rx' := rx
    have ry' := ry
    cases rx with
    | tup e1 r1 => cases ry with
      | tup e2 r2 =>
        refine ⟨_, _, _, _, rfl, rfl, e1.sq, e2.sq, (by rw [← r1.length, ← r2.length]; exact hf.1), fun z => ?_, fun z1 z2 => ?_, fun z1 z2 p hp => qn _ hf.2 _ _ hp (rep_tup hT l hm hp (r1.append r2))⟩
        · subst z
          have e := reps_nil r1
          subst e
          exact q _ hf.2 _ ry'
        · subst z2
          have e := reps_nil r2
          subst e
          exact q _ hf.2 _ (by rw [List.append_nil]; exact rx')
  · exact hf.elim
/-- list * int -/
def fRep : F2
  | .lst a, .int k, Q => -(2 ^ 63) ≤ k ∧ k < 2 ^ 63 ∧ a.length * k.toNat ≤ sizeLine ∧ Q (.lst (List.replicate k.toNat a).flatten)
  | _, _, _ => False
theorem reps_rep {ds : List D} {vs : List V} (r : Reps K rg M H ds vs) : ∀ n : Nat, Reps K rg M H (List.replicate n ds).flatten (List.replicate n vs).flatten
  | 0 => .nil
  | n + 1 => by
    rw [List.replicate_succ, List.replicate_succ, List.flatten_cons, List.flatten_cons]
    exact r.append (reps_rep r n)
theorem opd_rep (hT : TOk T) : OpD X T (binaryOp .Mult) fRep := opd_new hT op_rep fun rg M H dx dy x y P Q hm l rx ry hf q qn => by
  unfold fRep at hf
  split at hf
  · rw [ry.int_v]
    cases rx with
    | lst n1 e1 r1 =>
      exact ⟨_, _, _, rfl, rfl, e1, hf.1, hf.2.1, (by rw [← r1.length]; exact hf.2.2.1), fun p hp => qn _ hf.2.2.2 _ _ hp (rep_lst hT l hm hp (reps_rep r1 _))⟩
  · exact hf.elim
/-! ### equality of data -/
mutual
def dat : D → Option PyData
  | .non => some .none
  | .bl b => some (.bool b)
  | .int i => some (.int i)
  | .str s => some (.str s)
  | .tup ds => (dats ds).map PyData.tuple
  | .lst ds => (dats ds).map PyData.list
  | _ => none
def dats : List D → Option (List PyData)
  | [] => some []
  | d :: ds => match dat d, dats ds with
    | some p, some ps => some (p :: ps)
    | _, _ => none
end
mutual
theorem Rep.dp {K : PySem.W.Frag} {rg : Addr} {M : List Addr} {H : Hp} {d : D} {v : V} (r : Rep K rg M H d v) {p : PyData} (h : dat d = some p) : Dp K H v p := match r with
  | .non => by cases h; exact .non
  | .bl b => by cases h; exact .bl b
  | .int i => by cases h; exact .int i
  | .str s => by cases h; exact .str s
  | .ty n => by cases h
  | .tup e r => by
    obtain ⟨ps, h1, h2⟩ := Option.map_eq_some_iff.mp h
    subst h2
    exact .tup e.sq (Reps.dp r h1)
  | .lst n e r => by
    obtain ⟨ps, h1, h2⟩ := Option.map_eq_some_iff.mp h
    subst h2
    exact .lst (SqL.of e) (Reps.dp r h1)
  | .obj _ _ _ => by cases h
  | .cls c => by cases h
  | .dct0 _ _ => by cases h
  | .rng _ => by cases h
theorem Reps.dp {K : PySem.W.Frag} {rg : Addr} {M : List Addr} {H : Hp} {ds : List D} {vs : List V} (r : Reps K rg M H ds vs) {ps : List PyData} (h : dats ds = some ps) : DpAll K H vs ps := match r with
  | .nil => by cases h; exact .nil
  | .cons (d := d) (ds := ds') r t => by
    unfold dats at h
    split at h
    case h_1 p ps' h1 h2 => cases h; exact .cons (Rep.dp r h1) (Reps.dp t h2)
    case h_2 => cases h
end
/-- x == y of data -/
@[irreducible] def fEqDat : F2 := fun x y Q => match dat x, dat y with
  | some p, some q => SeqAt.shaped p = true ∧ SeqAt.shaped q = true ∧ Q (.bl (PyData.eqv p q))
  | _, _ => False
@[irreducible] def fNeDat : F2 := fun x y Q => match dat x, dat y with
  | some p, some q => SeqAt.shaped p = true ∧ SeqAt.shaped q = true ∧ Q (.bl (!PyData.eqv p q))
  | _, _ => False
theorem opd_eqDat (hu : X.A.units + 64 < cLine) : OpD X T (compareOp .Eq) fEqDat := opd_flat (op_eqD hu) fun rg M H dx dy x y P Q hm rx ry hf q => by
  unfold fEqDat at hf
  split at hf
  case h_1 p p' h1 h2 => exact ⟨p, p', rx.dp h1, ry.dp h2, hf.1, hf.2.1, q _ hf.2.2 _ (.bl _)⟩
  case h_2 => exact hf.elim
theorem opd_neDat (hu : X.A.units + 64 < cLine) : OpD X T (compareOp .NotEq) fNeDat := opd_flat (op_neD hu) fun rg M H dx dy x y P Q hm rx ry hf q => by
  unfold fNeDat at hf
  split at hf
  case h_1 p p' h1 h2 => exact ⟨p, p', rx.dp h1, ry.dp h2, hf.1, hf.2.1, q _ hf.2.2 _ (.bl _)⟩
  case h_2 => exact hf.elim
/-! ### one place -/
abbrev F1 := D → (D → Prop) → Prop
def liftR1 (T : Hp → Prop) (K : PySem.W.Frag) (f : F1) : V → Hp → VK → Prop := fun x H Q => ∃ rg M dx P, rg ∈ M ∧ Live H M ∧ T H ∧ Rep K rg M H dx x ∧ f dx P ∧ ∀ d, P d → ∀ H' v, Ext T rg H H' → Rep K rg M H' d v → Q v H'
def wUn (f : F1) (wa : WE) : WE := fun ρ Q => wa ρ fun x => f x Q
theorem one {f : F1} {wa : WE} {σ : L2.St} {H : Hp} {Q : VK} (h : liftE g X.K (wUn f wa) σ H Q) : liftE g X.K wa σ H fun x H1 => liftR1 g.T X.K f x H1 Q := by
  obtain ⟨M, ρ, P, s, h, q⟩ := h
  refine ⟨M, ρ, _, s, h, fun dx h1 H1 x e1 r1 => ?_⟩
  exact ⟨g.rg, M, dx, P, s.rgM, s.live.mono e1, e1.tab s.t, r1, h1, fun d hd H3 v e3 r3 => q d hd H3 v (e1.trans e3) r3⟩
def UnD (X : Cx) (T : Hp → Prop) (o : Value → Sem Value) (f : F1) : Prop := UnR X o (liftR1 T X.K f)
theorem d_un {op : UnaryOp} {f : F1} {wa : WE} {a : Expr} {pos : Pos} (ho : UnD X g.T (unaryOp op) f) (ha : PE X a (liftE g X.K wa)) : PE X (.UnaryOp op a pos) (liftE g X.K (wUn f wa)) :=
  pe_imp (pe_un ho ha) fun _ _ _ => one
def fNegI : F1
  | .int i, Q => Q (.int (-i))
  | _, _ => False
theorem und_neg : UnD X T (unaryOp .USub) fNegI := by
  intro pins s σ H x v Q I rx h
  obtain ⟨rg, M, dx, P, h1, h2, h3, h4, h5, h6⟩ := h
  refine un_neg pins s σ H x v Q I rx ?_
  unfold fNegI at h5
  split at h5
  · exact ⟨_, h4.int_v, h6 _ h5 H _ (Ext.refl H) (.int _)⟩
  · exact h5.elim
theorem UnD.or {o : Value → Sem Value} {f h : F1} (a : UnD X T o f) (b : UnD X T o h) : UnD X T o (fun x Q => f x Q ∨ h x Q) := by
  intro pins s σ H x v Q I rx hq
  obtain ⟨rg, M, dx, P, h1, h2, h3, h4, h5, h6⟩ := hq
  rcases h5 with h5 | h5
  · exact a pins s σ H x v Q I rx ⟨rg, M, dx, P, h1, h2, h3, h4, h5, h6⟩
  · exact b pins s σ H x v Q I rx ⟨rg, M, dx, P, h1, h2, h3, h4, h5, h6⟩
/-! ### items, slices -/
@[irreducible] def fIx : F2
  | .lst ds, .int i, Q => (match atI ds i with | some d => Q d | none => False)
  | .tup ds, .int i, Q => (match atI ds i with | some d => Q d | none => False)
  | _, _, _ => False
theorem reps_at {ds : List D} {vs : List V} {i : Int} {d : D} (r : Reps K rg M H ds vs) (h : atI ds i = some d) : ∃ v, atI vs i = some v ∧ Rep K rg M H d v := by
  unfold atI at h ⊢
  rw [← r.length]
  cases e : ixN ds.length i with
  | none => rw [e] at h; cases h
  | some j =>
    rw [e] at h
    exact r.get' h
theorem ix_d : IxR X (liftR T X.K fIx) := by
  intro value slice pins s σ H x y v u Q I rx ry hq hs
  obtain ⟨rg, M, dx, dy, P, h1, h2, h3, h4, h5, h6, h7⟩ := hq
  unfold fIx at h6
  split at h6
  · rename_i ds i Q'
    cases h4 with
    | lst n e r =>
      split at h6
      · rename_i d hd
        obtain ⟨w, hw, rw⟩ := reps_at r hd
        exact ix_list value slice pins s σ H _ y v u Q I rx ry ⟨_, _, _, w, rfl, h5.int_v, SqL.of e, hw, h7 d h6 H w (Ext.refl H) rw⟩ hs
      · exact h6.elim
  · rename_i ds i Q'
    cases h4 with
    | tup e r =>
      split at h6
      · rename_i d hd
        obtain ⟨w, hw, rw⟩ := reps_at r hd
        exact ix_tup value slice pins s σ H _ y v u Q I rx ry ⟨_, _, _, w, rfl, h5.int_v, e.sq, hw, h7 d h6 H w (Ext.refl H) rw⟩ hs
      · exact h6.elim
  · exact h6.elim
theorem d_ix {a b : Expr} {wa wb : WE} {pos : Pos} (ha : PE X a (liftE g X.K wa)) (hb : PE X b (liftE g X.K wb)) (hs : PlainIx b := by exact fun _ _ => rfl) : PE X (.Subscript a b pos) (liftE g X.K (wBin fIx wa wb)) :=
  pe_imp (pe_ix ix_d ha hb hs) fun _ _ _ => two
/-- a part of a slice -/
def wPart : Option WE → List S → (Option Int → Prop) → Prop
  | none, _, Q => Q none
  | some w, ρ, Q => w ρ fun d => (match d with | .int i => Q (some i) | _ => False)
def cutD (ds : List D) (lo hi : Option Int) : List D := (ds.drop (HT.sIx ds.length 0 lo)).take (HT.sIx ds.length ds.length hi - HT.sIx ds.length 0 lo)
theorem Reps.drop : ∀ {ds : List D} {vs : List V} (n : Nat), Reps K rg M H ds vs → Reps K rg M H (ds.drop n) (vs.drop n)
  | _, _, 0, r => r
  | _, _, n + 1, .nil => by simp; exact .nil
  | _, _, n + 1, .cons _ b => Reps.drop n b
theorem Reps.take : ∀ {ds : List D} {vs : List V} (n : Nat), Reps K rg M H ds vs → Reps K rg M H (ds.take n) (vs.take n)
  | _, _, 0, _ => .nil
  | _, _, n + 1, .nil => by simp; exact .nil
  | _, _, n + 1, .cons a b => .cons a (Reps.take n b)
theorem Reps.reverse : ∀ {ds : List D} {vs : List V}, Reps K rg M H ds vs → Reps K rg M H ds.reverse vs.reverse
  | _, _, .nil => .nil
  | _, _, .cons a b => by
    rw [List.reverse_cons, List.reverse_cons]
    exact (Reps.reverse b).append (.cons a .nil)
theorem reps_cut {ds : List D} {vs : List V} (r : Reps K rg M H ds vs) (lo hi : Option Int) : Reps K rg M H (cutD ds lo hi) (cutV vs lo hi) := by
  unfold cutD cutV
  rw [r.length]
  exact Reps.take _ (Reps.drop _ r)
def fSl (x : D) (lo hi : Option Int) (Q : D → Prop) : Prop := match x with
  | .lst ds => Q (.lst (cutD ds lo hi))
  | .tup ds => Q (.tup (cutD ds lo hi))
  | _ => False
def wSl (we : WE) (wl wh : Option WE) : WE := fun ρ Q => we ρ fun x => wPart wl ρ fun lo => wPart wh ρ fun hi => fSl x lo hi Q
theorem SlR.imp {r r' : V → Option Int → Option Int → Hp → VK → Prop} (h : SlR X r) (k : ∀ x lo hi H Q, r' x lo hi H Q → r x lo hi H Q) : SlR X r' := fun pins s σ H x v vl vu lo hi sl Q I rx a b c q => h pins s σ H x v vl vu lo hi sl Q I rx a b c (k _ _ _ _ _ q)
def rSlD (T : Hp → Prop) (K : PySem.W.Frag) : V → Option Int → Option Int → Hp → VK → Prop := fun x lo hi H Q => ∃ rg M dx P, rg ∈ M ∧ Live H M ∧ T H ∧ Rep K rg M H dx x ∧ fSl dx lo hi P ∧ ∀ d, P d → ∀ H' v, Ext T rg H H' → Rep K rg M H' d v → Q v H'
theorem sl_d (hT : TOk T) : SlR X (rSlD T X.K) := SlR.imp (L2.SlR.or sl_list sl_tupA) fun x lo hi H Q h => by
  obtain ⟨rg, M, dx, P, h1, h2, h3, h4, h5, h6⟩ := h
  unfold fSl at h5
  split at h5
  · cases h4 with
    | lst n e r => exact .inl ⟨_, _, rfl, SqL.of e, fun p hp => h6 _ h5 _ _ (ext_new hT h2 h1 hp) (rep_lst hT h2 h1 hp (reps_cut r lo hi))⟩
  · have h4' := h4
    cases h4 with
    | tup e r =>
      refine .inr ⟨_, _, rfl, e.sq, fun z => ?_, fun _ p hp => h6 _ h5 _ _ (ext_new hT h2 h1 hp) (rep_tup hT h2 h1 hp (reps_cut r lo hi))⟩
      refine h6 _ h5 _ _ (Ext.refl H) ?_
      have e2 : ∀ ds : List D, Reps X.K rg M H ds _ → cutD ds lo hi = ds := fun ds r => by
        unfold cutD
        rw [← r.length] at z
        rw [z.1, z.2, List.drop_zero, Nat.sub_zero, List.take_length]
      rw [e2 _ r]
      exact h4'
  · exact h5.elim
/-- e[lo:hi] -/
theorem d_sl {e : Expr} {lo hi : Option Expr} {we : WE} {wl wh : Option WE} {pos p2 : Pos} (hT : TOk g.T) (he : PE X e (liftE g X.K we))
    (hl : match lo, wl with | none, none => True | some l, some w => PE X l (liftE g X.K w) | _, _ => False) (hh : match hi, wh with | none, none => True | some l, some w => PE X l (liftE g X.K w) | _, _ => False) :
    PE X (.Subscript e (.Slice lo hi none p2) pos) (liftE g X.K (wSl we wl wh)) := by
  have po : ∀ (lo : Option Expr) (wl : Option WE), (match lo, wl with | none, none => True | some l, some w => PE X l (liftE g X.K w) | _, _ => False) → PO X lo (match wl with | none => tNoPart | some w => tPart (liftE g X.K w)) := by
    intro lo wl h
    cases lo with
    | none => cases wl with
      | none => exact po_none
      | some w => exact h.elim
    | some l => cases wl with
      | none => exact h.elim
      | some w => exact po_some h
  refine pe_imp (pe_slice (sl_d hT) he (po lo wl hl) (po hi wh hh)) ?_
  rintro σ H Q ⟨M, ρ, P, s, h, q⟩
  have pt : ∀ (wl : Option WE) (H1 : Hp) (R : Option Int → Prop) (Q1 : Option Int → Hp → Prop), St g X.K M σ H1 ρ → wPart wl ρ R → (∀ o, R o → ∀ H', Ext g.T g.rg H1 H' → Q1 o H') → (match wl with | none => tNoPart | some w => tPart (liftE g X.K w)) σ H1 Q1 := by
    intro wl H1 R Q1 s1 hw k
    cases wl with
    | none => exact k none hw H1 (Ext.refl H1)
    | some w =>
      refine ⟨M, ρ, _, s1, hw, fun d hd H' v e r => ?_⟩
      split at hd
      · exact ⟨_, r.int_v, k _ hd H' e⟩
      · exact hd.elim
  refine ⟨M, ρ, _, s, h, fun dx h1 H1 x e1 r1 => ?_⟩
  refine pt wl H1 _ _ (s.mono e1) h1 fun lo' h2 H2 e2 => ?_
  refine pt wh H2 _ _ ((s.mono e1).mono e2) h2 fun hi' h3 H3 e3 => ?_
  have s3 := ((s.mono e1).mono e2).mono e3
  exact ⟨g.rg, M, dx, P, s.rgM, s3.live, s3.t, (r1.monoE e2 s.rgM).monoE e3 s.rgM, h3, fun d hd H4 v e4 r4 => q d hd H4 v (((e1.trans e2).trans e3).trans e4) r4⟩
/-- xs[::-1] -/
def fRevL : F1
  | .lst ds, Q => Q (.lst ds.reverse)
  | _, _ => False
theorem d_rev {e : Expr} {we : WE} {k : Nat} {p1 p2 p3 pos : Pos} (hT : TOk g.T) (he : PE X e (liftE g X.K we)) : PE X (.Subscript e (.Slice none none (some (.UnaryOp .USub (.Constant (.int 1) k p1) p2)) p3) pos) (liftE g X.K (wUn fRevL we)) := by
  refine pe_imp (pe_revL he) ?_
  rintro σ H Q ⟨M, ρ, P, s, h, q⟩
  refine ⟨M, ρ, _, s, h, fun dx h1 H1 x e1 r1 => ?_⟩
  have s1 := s.mono e1
  unfold fRevL at h1
  split at h1
  · cases r1 with
    | lst n e r => exact ⟨_, _, rfl, SqL.of e, fun p hp => q _ h1 _ _ (e1.trans (ext_new hT s1.live s.rgM hp)) (rep_lst hT s1.live s.rgM hp r.reverse)⟩
  · exact h1.elim
/-! ### argument lists, displays -/
def wNil : WA := fun _ Q => Q []
def wCons (w : WE) (t : WA) : WA := fun ρ Q => w ρ fun d => t ρ fun ds => Q (d :: ds)
theorem da_nil : PA X [] (liftA g X.K wNil) := pa_imp pa_nil fun σ H Q h => by
  obtain ⟨M, ρ, P, s, h, q⟩ := h
  exact q _ h H _ (Ext.refl H) .nil
theorem da_cons {e : Expr} {es : List Expr} {w : WE} {t : WA} (he : PE X e (liftE g X.K w)) (hr : PA X es (liftA g X.K t)) (hs : starEach (e :: es) X.env = (false, eval e X.env) :: starEach es X.env := by rfl) :
    PA X (e :: es) (liftA g X.K (wCons w t)) := pa_imp (pa_cons he hr hs) fun σ H Q h => by
  obtain ⟨M, ρ, P, s, h, q⟩ := h
  refine ⟨M, ρ, _, s, h, fun d h1 H1 v e1 r1 => ?_⟩
  refine ⟨M, ρ, _, s.mono e1, h1, fun ds h2 H2 vs e2 r2 => ?_⟩
  exact q _ h2 H2 _ (e1.trans e2) (.cons (r1.monoE e2 s.rgM) r2)
def wTup (t : WA) : WE := fun ρ Q => t ρ fun ds => ds.length ≤ sizeLine ∧ Q (.tup ds)
def wLst (t : WA) : WE := fun ρ Q => t ρ fun ds => ds.length ≤ sizeLine ∧ Q (.lst ds)
theorem d_tup {es : List Expr} {t : WA} {x1 : Nat} {pos : Pos} (hT : TOk g.T) (h : PA X es (liftA g X.K t)) : PE X (.Tuple es x1 pos) (liftE g X.K (wTup t)) := pe_imp (pe_tup h) fun σ H Q h => by
  obtain ⟨M, ρ, P, s, h, q⟩ := h
  refine ⟨M, ρ, _, s, h, fun ds h1 H1 vs e1 r1 => ?_⟩
  have s1 := s.mono e1
  exact ⟨by rw [← r1.length]; exact h1.1, fun p hp => q _ h1.2 _ _ (e1.trans (ext_new hT s1.live s.rgM hp)) (rep_tup hT s1.live s.rgM hp r1)⟩
theorem d_lst {es : List Expr} {t : WA} {pos : Pos} (hT : TOk g.T) (h : PA X es (liftA g X.K t)) : PE X (.List es pos) (liftE g X.K (wLst t)) := pe_imp (pe_lst h) fun σ H Q h => by
  obtain ⟨M, ρ, P, s, h, q⟩ := h
  refine ⟨M, ρ, _, s, h, fun ds h1 H1 vs e1 r1 => ?_⟩
  have s1 := s.mono e1
  exact ⟨by rw [← r1.length]; exact h1.1, fun p hp => q _ h1.2 _ _ (e1.trans (ext_new hT s1.live s.rgM hp)) (rep_lst hT s1.live s.rgM hp r1)⟩
end
end DL
namespace DL
open PySem PySem.Spec PyProof.Rows L2
section
variable {X : Cx} {g : G} {e o c a b : Expr} {es rest : List Expr} {w wa wb : WE} {t : WA} {pos p apos : Pos} {f : F} {EW : D → Prop} {k : Nat} {fa : Addr} {x m : Str}
theorem d_or (h1 : PE X e (liftE g X.K wa)) (h2 : PE X e (liftE g X.K wb)) : PE X e (liftE g X.K fun ρ Q => wa ρ Q ∨ wb ρ Q) := ⟨fun pins s σ H Q I h => by
  obtain ⟨M, ρ, P, st, h, q⟩ := h
  rcases h with h | h
  · exact h1.run pins s σ H Q I ⟨M, ρ, P, st, h, q⟩
  · exact h2.run pins s σ H Q I ⟨M, ρ, P, st, h, q⟩⟩
theorem d_imp (h1 : PE X e (liftE g X.K wa)) (k : ∀ ρ Q, wb ρ Q → wa ρ Q) : PE X e (liftE g X.K wb) := pe_imp h1 fun σ H Q ⟨M, ρ, P, st, h, q⟩ => ⟨M, ρ, P, st, k _ _ h, q⟩
/-! ### calls -/
abbrev FnD (X : Cx) (T : Hp → Prop) (k : Nat) (fa : Addr) (f : F) : Prop := FnR X.prog X.w X.K X.mg X.base (L2.CX X.prog X.w) k fa (spD T X.K f)
abbrev PassD (X : Cx) (g : G) (EW : D → Prop) : Prop := Passes (L2.CX X.prog X.w) X (liftX g.T g.rg g.M0 g.H0 X.K EW)
theorem RepX.anti {K : PySem.W.Frag} {M : List Addr} {H' : Hp} {x : D} {cls : Value} {dd : Option Addr} (hs : ∀ a ∈ g.M0, a ∈ M) (r : RepX g.rg K M H' x cls dd) : RepX g.rg K g.M0 H' x cls dd := by
  obtain ⟨c, fs, dx, vs, e1, e2, e3, e4, r⟩ := r
  exact ⟨c, fs, dx, vs, e1, e2, e3, e4, RepF.anti hs r⟩
/-- the promise at the values -/
theorem sp_of {M : List Addr} {σ : L2.St} {H : Hp} {ρ : List S} {ds : List D} {vs : List V} {P : D → Prop} {Q : VK} (s : St g X.K M σ H ρ) (r : Reps X.K g.rg M H ds vs) (h : f ds P EW)
    (q : ∀ d, P d → ∀ H' v, Ext g.T g.rg H H' → Rep X.K g.rg M H' d v → Q v H') : spD g.T X.K f vs H Q (liftX g.T g.rg g.M0 g.H0 X.K EW) :=
  ⟨g.rg, M, ds, P, EW, s.rgM, s.live, s.t, r, h, q, fun x hx H' cls dd e rx => ⟨x, RepX.anti s.sub rx, s.ext.trans e, hx⟩⟩
def wCall (f : F) (EW : D → Prop) (t : WA) : WE := fun ρ Q => t ρ fun ds => f ds Q EW
theorem call_t {σ : L2.St} {H : Hp} {Q : VK} (h : liftE g X.K (wCall f EW t) σ H Q) : liftA g X.K t σ H fun vs H1 => spD g.T X.K f vs H1 Q (liftX g.T g.rg g.M0 g.H0 X.K EW) := by
  obtain ⟨M, ρ, P, s, h, q⟩ := h
  refine ⟨M, ρ, _, s, h, fun ds h1 H1 vs e1 r1 => ?_⟩
  exact sp_of (s.mono e1) r1 h1 fun d hd H2 v e2 r2 => q d hd H2 v (e1.trans e2) r2
theorem pe_fnR {CX : CXT} {sp : Sp} {E : XK} {t : TA} (F : FnR X.prog X.w X.K X.mg X.base CX k fa sp) (hr : Room k X.A) (hm : X.mg x = some (.ref fa)) (hk : PySem.W.keepIn X.K (.ref fa) = true) (hx : Passes CX X E) (ha : PA X (e :: es) t) (hg : Gl X x := by rfl)
    (hdb : (x == ("__debug__" : Str)) = false := by decide) (he : starEach (e :: es) X.env = (false, eval e X.env) :: starEach es X.env := by rfl) (hpl : (backTo pos (starEach es X.env)).any (·.1) = false := by rfl) :
    PE X (.Call (.Name x p) (e :: es) [] pos) (fun σ H Q => t σ H fun vs H1 => sp vs H1 Q E) := by
  refine ⟨fun pins s σ H Q I h => ?_⟩
  refine wpAny_Call_Name_kw (ld_glob I hg hm ?_ hdb)
  refine PySem.W.callWith_K (h₀ := X.base) I.ok.mod.kin hk (thn (ha.run pos pins s σ H _ I h) fun us s1 hh => ?_) he hpl
  obtain ⟨vs, H1, I1, r, q⟩ := hh
  exact ⟨I1.kIn, wpAny_call (run_fnR F hr hx I1 r q)⟩
theorem d_fn (F : FnD X g.T k fa f) (hr : Room k X.A) (hm : X.mg x = some (.ref fa)) (hk : PySem.W.keepIn X.K (.ref fa) = true) (hx : PassD X g EW) (ha : PA X (e :: es) (liftA g X.K t)) (hg : Gl X x := by rfl)
    (hdb : (x == ("__debug__" : Str)) = false := by decide) (he : starEach (e :: es) X.env = (false, eval e X.env) :: starEach es X.env := by rfl) (hpl : (backTo pos (starEach es X.env)).any (·.1) = false := by rfl) :
    PE X (.Call (.Name x p) (e :: es) [] pos) (liftE g X.K (wCall f EW t)) := pe_imp (pe_fnR F hr hm hk hx ha hg hdb he hpl) fun _ _ _ => call_t
/-- o.m(e, ..), o an instance of the class c -/
def wMeth (c m : Str) (f : F) (EW : D → Prop) (wo : WE) (t : WA) : WE := fun ρ Q => wo ρ fun d => match d with
  | .obj c' fs => c' = c ∧ fs.lookup m = none ∧ t ρ fun ds => f (.obj c' fs :: ds) Q EW
  | _ => False
theorem meth_t {c : Str} {wo : WE} {σ : L2.St} {H : Hp} {Q : VK} (h : liftE g X.K (wMeth c m f EW wo t) σ H Q) :
    tMethR (He.ga X.K c) m (spD g.T X.K f) (liftX g.T g.rg g.M0 g.H0 X.K EW) (liftE g X.K wo) (liftA g X.K t) σ H Q := by
  obtain ⟨M, ρ, P, s, h, q⟩ := h
  refine ⟨M, ρ, _, s, h, fun d h1 H1 v e1 r1 => ?_⟩
  split at h1
  · obtain ⟨hc, hl, h2⟩ := h1
    subst hc
    have r1' := r1
    cases r1 with
    | obj n e r =>
      refine ⟨_, _, _, rfl, e, RepF.none r hl, ?_⟩
      refine ⟨M, ρ, _, s.mono e1, h2, fun ds h3 H2 vs e2 r2 => ?_⟩
      exact sp_of ((s.mono e1).mono e2) (.cons (r1'.monoE e2 s.rgM) r2) h3 fun d hd H3 v e3 r3 => q d hd H3 v ((e1.trans e2).trans e3) r3
  · exact h1.elim
theorem d_meth {c : Str} {wo : WE} {pl : Sem Bool} (cl : Cls X.K (He.ga X.K c)) (hm : Meth X.K (He.ga X.K c) m fa) (F : FnD X g.T k fa f) (hr : Room k X.A) (hx : PassD X g EW) (ho : PE X o (liftE g X.K wo)) (ha : PA X (e :: es) (liftA g X.K t))
    (hst : starEach (e :: es) X.env = (false, eval e X.env) :: starEach es X.env := by rfl) (hpl : (backTo pos (starEach es X.env)).any (·.1) = false := by rfl)
    (ht : eval (.Call (.Attribute o m apos) (e :: es) [] pos) X.env = (do
      let ov ← eval o X.env
      standAt apos.atName
      let (f, first) ← holding [ov] (getMethod ov m pl)
      callWith pos f first (backTo pos (starEach (e :: es) X.env)) (backToKw pos (keywordEach [] X.env))) := by rfl) :
    PE X (.Call (.Attribute o m apos) (e :: es) [] pos) (liftE g X.K (wMeth c m f EW wo t)) := pe_imp (pe_methR ho cl hm F hr hx ha hst hpl ht) fun _ _ _ => meth_t
/-- C.m(e, ..), m a classmethod, C a class that stands at the name -/
def wCMeth (c : Str) (f : F) (EW : D → Prop) (wo : WE) (t : WA) : WE := fun ρ Q => wo ρ fun d => match d with
  | .cls c' => c' = c ∧ t ρ fun ds => f (.cls c' :: ds) Q EW
  | _ => False
theorem d_cmeth {c : Str} {wo : WE} {mc : Value} {pp : Addr} (rd : ClX.CRead X.K (He.ga X.K c) mc) (cm : ClX.CMet X.K (He.ga X.K c) mc m pp fa) (F : FnD X g.T k fa f) (hr : Room k X.A) (hx : PassD X g EW) (ho : PE X o (liftE g X.K wo)) (ha : PA X (e :: es) (liftA g X.K t))
    (hst : starEach (e :: es) X.env = (false, eval e X.env) :: starEach es X.env := by rfl) (hpl : (backTo pos (starEach es X.env)).any (·.1) = false := by rfl)
    {pl : Sem Bool} (ht : eval (.Call (.Attribute o m apos) (e :: es) [] pos) X.env = (do
      let ov ← eval o X.env
      standAt apos.atName
      let (f, first) ← holding [ov] (getMethod ov m pl)
      callWith pos f first (backTo pos (starEach (e :: es) X.env)) (backToKw pos (keywordEach [] X.env))) := by rfl) :
    PE X (.Call (.Attribute o m apos) (e :: es) [] pos) (liftE g X.K (wCMeth c f EW wo t)) := by
  refine pe_imp (ClX.pe_cmeth (pl := pl) ho rd cm F hr hx ha (hst := hst) (hpl := hpl) (ht := ht)) ?_
  rintro σ H Q ⟨M, ρ, P, s, h, q⟩
  refine ⟨M, ρ, _, s, h, fun d h1 H1 v e1 r1 => ?_⟩
  split at h1
  · obtain ⟨hc, h2⟩ := h1
    subst hc
    cases r1 with
    | cls c' =>
      refine ⟨rfl, M, ρ, _, s.mono e1, h2, fun ds h3 H2 vs e2 r2 => ?_⟩
      exact sp_of ((s.mono e1).mono e2) (.cons (.cls _) r2) h3 fun d hd H3 v e3 r3 => q d hd H3 v ((e1.trans e2).trans e3) r3
  · exact h1.elim
/-! ### fields, properties -/
/-- what a field's reading is worth: sel tells it of the object -/
def FldOk (K : PySem.W.Frag) (f : Str) (sel : F1) : Prop := ∀ d Q, sel d Q → ∃ c fs v, d = .obj c fs ∧ Cls K (He.ga K c) ∧ NoAttr K (He.ga K c) f ∧ fs.lookup f = some v ∧ Q v
theorem d_fld {sel : F1} {wo : WE} (hs : FldOk X.K x sel) (ho : PE X o (liftE g X.K wo)) (hb : attributeBase o x X.env (eval o X.env) = eval o X.env := by rfl) : PE X (.Attribute o x pos) (liftE g X.K (wUn sel wo)) := by
  refine pe_imp (pe_fld ho hb) ?_
  rintro σ H Q ⟨M, ρ, P, s, h, q⟩
  refine ⟨M, ρ, _, s, h, fun d h1 H1 v e1 r1 => ?_⟩
  obtain ⟨c, fs, z, rfl, cl, na, hl, hz⟩ := hs _ _ h1
  cases r1 with
  | obj n e r =>
    obtain ⟨y, hy, ry⟩ := r.lookup hl
    exact ⟨_, _, _, _, y, rfl, e, cl, na, hy, q _ hz H1 y e1 ry⟩
/-- the class c has the name x as a property that hands back the field fl -/
structure PropG (P : Program) (w : World) (K : PySem.W.Frag) (mg : Str → Option Value) (base : Heap) (c x fl : Str) : Prop where
  cl : Cls K (He.ga K c)
  ex : ∃ p ga fd, PropOf K (He.ga K c) x p ga ∧ FnOk P w K mg base CX0 2 ga fd ["self"] (getSp (He.ga K c) fl) ∧ Binds K fd ["self"] []
def PropOk (X : Cx) (x : Str) (sel : F1) : Prop := ∀ d Q, sel d Q → ∃ c fl fs v, d = .obj c fs ∧ PropG X.prog X.w X.K X.mg X.base c x fl ∧ fs.lookup fl = some v ∧ Q v
theorem d_prop {sel : F1} {wo : WE} (hs : PropOk X x sel) (hr : Room 3 X.A) (ho : PE X o (liftE g X.K wo)) (hb : attributeBase o x X.env (eval o X.env) = eval o X.env := by rfl) : PE X (.Attribute o x pos) (liftE g X.K (wUn sel wo)) := by
  refine ⟨fun pins s σ H Q I h => ?_⟩
  obtain ⟨M, ρ, P, st, h, q⟩ := h
  refine attr_of hb (thn (ho.run pins s σ H (fun v H1 => ∃ a C dx fs p ga fd fl y, v = V.ref a ∧ H1 a = some (.ins C dx fs) ∧ Cls X.K C ∧ PropOf X.K C x p ga ∧ FnOk X.prog X.w X.K X.mg X.base CX0 2 ga fd ["self"] (getSp C fl) ∧ Binds X.K fd ["self"] [] ∧ fs.lookup fl = some y ∧ Q y H1) I
    ⟨M, ρ, _, st, h, fun d h1 H1 v e1 r1 => ?_⟩) fun u s1 hh => ?_)
  · obtain ⟨c, fl, fs, z, rfl, pg, hl, hz⟩ := hs _ _ h1
    obtain ⟨cl, pp, ga, fd, hp, hf, hbi⟩ := pg
    cases r1 with
    | obj n e r =>
      obtain ⟨y, hy, ry⟩ := r.lookup hl
      exact ⟨_, _, _, _, pp, ga, fd, fl, y, rfl, e, cl, hp, hf, hbi, hy, q _ hz H1 y e1 ry⟩
  · obtain ⟨v, H1, I1, rv, a, C, dx, fs, pp, ga, fd, fl, y, ev, ea, cl, hp, hf, hbi, hy, qy⟩ := hh
    subst ev
    obtain rfl : u = Value.ref a := rv
    exact getprop_ok (dvs := []) (ds := []) I1 ea cl hp hf hr hbi .nil pass0 ⟨a, dx, fs, y, rfl, ea, hy, qy⟩
end
end DL
namespace DL
open PySem PySem.Spec PyProof.Rows L2
section
variable {X : Cx} {g : G} {e o c a b : Expr} {es : List Expr} {w wa wb : WE} {wc wc' : WT} {t : WA} {pos p apos : Pos} {f : F} {EW : D → Prop} {k : Nat} {fa : Addr} {x m : Str} {st : Stmt} {rest sa sb : List Stmt} {u v : WS}
/-! ### tests -/
def wTst (w : WE) : WT := fun ρ Q => w ρ fun d => match d with
  | .bl b => Q b
  | _ => False
theorem dt_val (h : PE X e (liftE g X.K w)) (he : ∀ whole : Sem Value, isTrue e X.env whole = (do
    let v ← whole
    standAt e.pos
    holding [v] (truthy v)) := by intro _; rfl) : PT X e (liftT g X.K (wTst w)) := pt_imp (pt_val h he) fun σ H Q h => by
  obtain ⟨M, ρ, P, s, h, q⟩ := h
  refine ⟨M, ρ, _, s, h, fun d h1 H1 v e1 r1 => ?_⟩
  split at h1
  · exact ⟨_, r1.bl_v, q _ h1 H1 e1⟩
  · exact h1.elim
def wNot (w : WT) : WT := fun ρ Q => w ρ fun b => Q (!b)
theorem dt_not (h : PT X a (liftT g X.K wc)) : PT X (.UnaryOp .Not a pos) (liftT g X.K (wNot wc)) := pt_imp (pt_not h) fun σ H Q h => by
  obtain ⟨M, ρ, P, s, h, q⟩ := h
  exact ⟨M, ρ, _, s, h, fun b hb H1 e1 => q _ hb H1 e1⟩
/-- and, or: a test of any whole -/
def wAnd (w u : WT) : WT := fun ρ Q => w ρ fun b => match b with
  | true => u ρ Q
  | false => Q false
def wOr (w u : WT) : WT := fun ρ Q => w ρ fun b => match b with
  | true => Q true
  | false => u ρ Q
theorem pw_imp {t t' : TT} (h : PW X e t) (i : ∀ σ H Q, t' σ H Q → t σ H Q) : PW X e t' := ⟨fun wh pins s σ H Q I q => h.run wh pins s σ H Q I (i σ H Q q)⟩
theorem dw_and1 (ha : PT X a (liftT g X.K wc)) : PW X (.BoolOp .And [a] pos) (liftT g X.K wc) := pw_and1 ha
theorem dw_or1 (ha : PT X a (liftT g X.K wc)) : PW X (.BoolOp .Or [a] pos) (liftT g X.K wc) := pw_or1 ha
theorem and_t {σ : L2.St} {H : Hp} {Q : Bool → Hp → Prop} (h : liftT g X.K (wAnd wc wc') σ H Q) : tAnd (liftT g X.K wc) (liftT g X.K wc') σ H Q := by
  obtain ⟨M, ρ, P, s, h, q⟩ := h
  refine ⟨M, ρ, _, s, h, fun b hb H1 e1 => ?_⟩
  cases b with
  | true => rw [if_pos rfl]; exact ⟨M, ρ, P, s.mono e1, hb, fun b hb H2 e2 => q b hb H2 (e1.trans e2)⟩
  | false => rw [if_neg Bool.false_ne_true]; exact q _ hb H1 e1
theorem or_t {σ : L2.St} {H : Hp} {Q : Bool → Hp → Prop} (h : liftT g X.K (wOr wc wc') σ H Q) : tOr (liftT g X.K wc) (liftT g X.K wc') σ H Q := by
  obtain ⟨M, ρ, P, s, h, q⟩ := h
  refine ⟨M, ρ, _, s, h, fun b hb H1 e1 => ?_⟩
  cases b with
  | true => rw [if_pos rfl]; exact q _ hb H1 e1
  | false => rw [if_neg Bool.false_ne_true]; exact ⟨M, ρ, P, s.mono e1, hb, fun b hb H2 e2 => q b hb H2 (e1.trans e2)⟩
theorem dw_and {rest : List Expr} (ha : PT X a (liftT g X.K wc)) (hb : PW X (.BoolOp .And (b :: rest) pos) (liftT g X.K wc')) : PW X (.BoolOp .And (a :: b :: rest) pos) (liftT g X.K (wAnd wc wc')) := pw_imp (pw_and ha hb) fun _ _ _ => and_t
theorem dw_or {rest : List Expr} (ha : PT X a (liftT g X.K wc)) (hb : PW X (.BoolOp .Or (b :: rest) pos) (liftT g X.K wc')) : PW X (.BoolOp .Or (a :: b :: rest) pos) (liftT g X.K (wOr wc wc')) := pw_imp (pw_or ha hb) fun _ _ _ => or_t
/-- as values: all but the last true or false -/
def wAndV (w u : WE) : WE := fun ρ Q => w ρ fun d => match d with
  | .bl true => u ρ Q
  | .bl false => Q (.bl false)
  | _ => False
def wOrV (w u : WE) : WE := fun ρ Q => w ρ fun d => match d with
  | .bl true => Q (.bl true)
  | .bl false => u ρ Q
  | _ => False
theorem d_one {op : BoolOp} (h : PE X a (liftE g X.K w)) : PE X (.BoolOp op [a] pos) (liftE g X.K w) := pe_one h
theorem d_and {rest : List Expr} (ha : PE X a (liftE g X.K wa)) (hb : PE X (.BoolOp .And (b :: rest) pos) (liftE g X.K wb)) : PE X (.BoolOp .And (a :: b :: rest) pos) (liftE g X.K (wAndV wa wb)) := pe_imp (pe_and ha hb) fun σ H Q h => by
  obtain ⟨M, ρ, P, s, h, q⟩ := h
  refine ⟨M, ρ, _, s, h, fun d h1 H1 v e1 r1 => ?_⟩
  split at h1
  · refine ⟨true, r1.bl_v, ?_⟩
    rw [if_pos rfl]
    exact ⟨M, ρ, P, s.mono e1, h1, fun d hd H2 v e2 r2 => q d hd H2 v (e1.trans e2) r2⟩
  · refine ⟨false, r1.bl_v, ?_⟩
    rw [if_neg Bool.false_ne_true]
    exact q _ h1 H1 _ e1 (.bl _)
  · exact h1.elim
theorem d_orv {rest : List Expr} (ha : PE X a (liftE g X.K wa)) (hb : PE X (.BoolOp .Or (b :: rest) pos) (liftE g X.K wb)) : PE X (.BoolOp .Or (a :: b :: rest) pos) (liftE g X.K (wOrV wa wb)) := pe_imp (pe_or ha hb) fun σ H Q h => by
  obtain ⟨M, ρ, P, s, h, q⟩ := h
  refine ⟨M, ρ, _, s, h, fun d h1 H1 v e1 r1 => ?_⟩
  split at h1
  · refine ⟨true, r1.bl_v, ?_⟩
    rw [if_pos rfl]
    exact q _ h1 H1 _ e1 (.bl _)
  · refine ⟨false, r1.bl_v, ?_⟩
    rw [if_neg Bool.false_ne_true]
    exact ⟨M, ρ, P, s.mono e1, h1, fun d hd H2 v e2 r2 => q d hd H2 v (e1.trans e2) r2⟩
  · exact h1.elim
def wNotV (w : WE) : WE := fun ρ Q => w ρ fun d => match d with
  | .bl b => Q (.bl (!b))
  | _ => False
theorem d_not (h : PE X a (liftE g X.K w)) : PE X (.UnaryOp .Not a pos) (liftE g X.K (wNotV w)) := pe_imp (pe_not h) fun σ H Q h => by
  obtain ⟨M, ρ, P, s, h, q⟩ := h
  refine ⟨M, ρ, _, s, h, fun d h1 H1 v e1 r1 => ?_⟩
  split at h1
  · exact ⟨_, r1.bl_v, q _ h1 H1 _ e1 (.bl _)⟩
  · exact h1.elim
def wIfE (c : WT) (w u : WE) : WE := fun ρ Q => c ρ fun b => match b with
  | true => w ρ Q
  | false => u ρ Q
theorem d_if (hc : PT X c (liftT g X.K wc)) (ha : PE X a (liftE g X.K wa)) (hb : PE X b (liftE g X.K wb)) : PE X (.IfExp c a b pos) (liftE g X.K (wIfE wc wa wb)) := pe_imp (pe_ifExp hc ha hb) fun σ H Q h => by
  obtain ⟨M, ρ, P, s, h, q⟩ := h
  refine ⟨M, ρ, _, s, h, fun b hb H1 e1 => ?_⟩
  cases b with
  | true => rw [if_pos rfl]; exact ⟨M, ρ, P, s.mono e1, hb, fun d hd H2 v e2 r2 => q d hd H2 v (e1.trans e2) r2⟩
  | false => rw [if_neg Bool.false_ne_true]; exact ⟨M, ρ, P, s.mono e1, hb, fun d hd H2 v e2 r2 => q d hd H2 v (e1.trans e2) r2⟩
/-- x is None, x is not None -/
def fIsN : F1
  | .non, Q => Q (.bl true)
  | _, Q => Q (.bl false)
def fNotN : F1
  | .non, Q => Q (.bl false)
  | _, Q => Q (.bl true)
theorem rep_non {K : PySem.W.Frag} {rg : Addr} {M : List Addr} {H : Hp} {d : D} {v : V} (r : Rep K rg M H d v) : decide (v = .non) = (match d with | .non => true | _ => false) := by
  cases r <;> first | rfl | exact decide_eq_false (fun z => nomatch z)
theorem d_isN {j : Nat} {p' : Pos} (h : PE X a (liftE g X.K w)) : PE X (.Compare a [.Is] [.Constant .none j p'] pos) (liftE g X.K (wUn fIsN w)) := pe_imp (pe_cmpR op_isN h pe_non (nomark _)) fun σ H Q h => by
  obtain ⟨M, ρ, P, s, h, q⟩ := h
  refine ⟨M, ρ, _, s, h, fun d h1 H1 v e1 r1 => ⟨rfl, ?_⟩⟩
  rw [rep_non r1]
  unfold fIsN at h1
  split at h1
  · exact q _ h1 H1 _ e1 (.bl _)
  · rename_i hn
    cases d <;> first | exact (hn rfl).elim | exact q _ h1 H1 _ e1 (.bl _)
theorem d_notN {j : Nat} {p' : Pos} (h : PE X a (liftE g X.K w)) : PE X (.Compare a [.IsNot] [.Constant .none j p'] pos) (liftE g X.K (wUn fNotN w)) := pe_imp (pe_cmpR op_notN h pe_non (nomark _)) fun σ H Q h => by
  obtain ⟨M, ρ, P, s, h, q⟩ := h
  refine ⟨M, ρ, _, s, h, fun d h1 H1 v e1 r1 => ⟨rfl, ?_⟩⟩
  rw [rep_non r1]
  unfold fNotN at h1
  split at h1
  · exact q _ h1 H1 _ e1 (.bl _)
  · rename_i hn
    cases d <;> first | exact (hn rfl).elim | exact q _ h1 H1 _ e1 (.bl _)
/-! ### statements -/
def wNext : WS := fun E ρ => E.nx ρ
def wSeq (u v : WS) : WS := fun E ρ => u { E with nx := v E } ρ
theorem ds_nil : PSs X [] (liftS g X.K wNext) := pss_imp pss_nil fun D σ H h => by
  obtain ⟨M, ρ, E, s, h, l⟩ := h
  exact l.nx _ h σ H M s
theorem ds_cons (h1 : PS X st (liftS g X.K u)) (h2 : PSs X rest (liftS g X.K v)) : PSs X (st :: rest) (liftS g X.K (wSeq u v)) := pss_imp (pss_cons h1 h2) fun D σ H h => by
  obtain ⟨M, ρ, E, s, h, l⟩ := h
  exact ⟨M, ρ, _, s, h, ⟨fun ρ' hn σ' H' M' s' => ⟨M', ρ', E, s', hn, l⟩, l.rt, l.bk, l.ct⟩⟩
theorem ds_one (h1 : PS X st (liftS g X.K u)) : PSs X [st] (liftS g X.K u) := pss_one h1
theorem ds_pass : PS X (.Pass pos) (liftS g X.K wNext) := ps_imp ps_pass fun D σ H h => by
  obtain ⟨M, ρ, E, s, h, l⟩ := h
  exact l.nx _ h σ H M s
def wBrk : WS := fun E ρ => E.bk ρ
def wCnt : WS := fun E ρ => E.ct ρ
theorem ds_break : PS X (.Break pos) (liftS g X.K wBrk) := ps_imp ps_break fun D σ H h => by
  obtain ⟨M, ρ, E, s, h, l⟩ := h
  exact l.bk _ h σ H M s
theorem ds_continue : PS X (.Continue pos) (liftS g X.K wCnt) := ps_imp ps_continue fun D σ H h => by
  obtain ⟨M, ρ, E, s, h, l⟩ := h
  exact l.ct _ h σ H M s
def wDrop (w : WE) : WS := fun E ρ => w ρ fun _ => E.nx ρ
theorem ds_expr (he : PE X e (liftE g X.K w)) (hs : swapsWith e none pos.line X.env = pure false := by rfl) : PS X (.Expr e pos) (liftS g X.K (wDrop w)) := ps_imp (ps_expr he hs) fun D σ H h => by
  obtain ⟨M, ρ, E, s, h, l⟩ := h
  exact ⟨M, ρ, _, s, h, fun d hd H1 v e1 r1 => l.nx _ hd σ H1 M (s.mono e1)⟩
def wRet (w : WE) : WS := fun E ρ => w ρ E.rt
theorem ds_ret (he : PE X e (liftE g X.K w)) : PS X (.Return (some e) pos) (liftS g X.K (wRet w)) := ps_imp (ps_ret he) fun D σ H h => by
  obtain ⟨M, ρ, E, s, h, l⟩ := h
  exact ⟨M, ρ, _, s, h, fun d hd H1 v e1 r1 => l.rt d hd H1 v (s.ext.trans e1) (Rep.anti s.sub r1)⟩
def wRetN : WS := fun E ρ => E.rt .non
theorem ds_retN : PS X (.Return none pos) (liftS g X.K wRetN) := ps_imp ps_retN fun D σ H h => by
  obtain ⟨M, ρ, E, s, h, l⟩ := h
  exact l.rt _ h H _ s.ext .non
def wIf (c : WT) (u v : WS) : WS := fun E ρ => c ρ fun b => match b with
  | true => u E ρ
  | false => v E ρ
theorem ds_if (hc : PT X c (liftT g X.K wc)) (ha : PSs X sa (liftS g X.K u)) (hb : PSs X sb (liftS g X.K v)) : PS X (.If c sa sb pos) (liftS g X.K (wIf wc u v)) := ps_imp (ps_if hc ha hb) fun D σ H h => by
  obtain ⟨M, ρ, E, s, h, l⟩ := h
  refine ⟨M, ρ, _, s, h, fun b hb H1 e1 => ?_⟩
  cases b with
  | true => rw [if_pos rfl]; exact ⟨M, ρ, E, s.mono e1, hb, l⟩
  | false => rw [if_neg Bool.false_ne_true]; exact ⟨M, ρ, E, s.mono e1, hb, l⟩
/-! targets -/
abbrev WG := D → List S → (List S → Prop) → Prop
def liftG (g : G) (K : PySem.W.Frag) (t : WG) : TG := fun v σ H Q => ∃ M ρ d P, St g K M σ H ρ ∧ Rep K g.rg M H d v ∧ t d ρ P ∧ ∀ ρ', P ρ' → ∀ σ' H' M', St g K M' σ' H' ρ' → Q σ' H'
def gN (i : Nat) : WG := fun d ρ Q => Q (ρ.set i (.val d))
theorem dg_name {i : Nat} {pos : Pos} (hN : X.N.Nodup) (hi : X.N[i]? = some x := by rfl) (hx : Loc X.env.scope x := by first | exact Or.inl rfl | exact Or.inr rfl) (hf : X.fn x = true ∨ X.env.scope.names.lookup x = some .local := by first | exact .inl rfl | exact .inr rfl) :
    PG X (.Name x pos) (liftG g X.K (gN i)) := ⟨fun pins s σ H v u Q I r h => (pg_name hN hi hx hf).run pins s σ H v u Q I r (by
  obtain ⟨M, ρ, d, P, st, rd, h, q⟩ := h
  exact q _ h _ _ _ (st.set i rd))⟩
def wAsg (w : WE) (t : WG) : WS := fun E ρ => w ρ fun d => t d ρ E.nx
theorem ds_asg {tg : Expr} {t : WG} (he : PE X e (liftE g X.K w)) (hg : PG X tg (liftG g X.K t)) (hs : swapsWithSole [tg] e pos.line X.env = pure false := by rfl) (hw : swappedStores [tg] e X.env = pure none := by rfl)
    (h1 : (assignEach [tg] X.env).map (·.2) = [assign tg X.env] := by rfl) : PS X (.Assign [tg] e pos) (liftS g X.K (wAsg w t)) := ps_imp (ps_asg he hg hs hw h1) fun D σ H h => by
  obtain ⟨M, ρ, E, s, h, l⟩ := h
  exact ⟨M, ρ, _, s, h, fun d hd H1 v e1 r1 => ⟨M, ρ, d, _, s.mono e1, r1, hd, fun ρ' hp σ' H' M' s' => l.nx ρ' hp σ' H' M' s'⟩⟩
theorem ds_set {i : Nat} {pos' : Pos} (hN : X.N.Nodup) (he : PE X e (liftE g X.K w)) (hi : X.N[i]? = some x := by rfl) (hx : Loc X.env.scope x := by first | exact Or.inl rfl | exact Or.inr rfl) (hf : X.fn x = true ∨ X.env.scope.names.lookup x = some .local := by first | exact .inl rfl | exact .inr rfl)
    (hs : swapsWithSole [.Name x pos'] e pos.line X.env = pure false := by rfl) (hw : swappedStores [.Name x pos'] e X.env = pure none := by rfl) : PS X (.Assign [.Name x pos'] e pos) (liftS g X.K (wAsg w (gN i))) := ds_asg he (dg_name hN hi hx hf) hs hw
/-- a tuple target: the tuple's items go to the targets -/
def gTupD (n : Nat) (t : List D → List S → (List S → Prop) → Prop) : WG := fun d ρ Q => match d with
  | .tup ds => ds.length = n ∧ t ds ρ Q
  | _ => False
def liftGs (g : G) (K : PySem.W.Frag) (t : List D → List S → (List S → Prop) → Prop) : TGs := fun vs σ H Q => ∃ M ρ ds P, St g K M σ H ρ ∧ Reps K g.rg M H ds vs ∧ t ds ρ P ∧ ∀ ρ', P ρ' → ∀ σ' H' M', St g K M' σ' H' ρ' → Q σ' H'
theorem dg_tup {ts : List Expr} {kk : Nat} {t : List D → List S → (List S → Prop) → Prop} {n : Nat} (hc : X.calm = true) (h : PGs X ts (liftGs g X.K t)) (hn : (assignEach ts X.env).length = n := by rfl) (hst : (assignEach ts X.env).findIdx? (·.1) = none := by rfl) :
    PG X (.Tuple ts kk pos) (liftG g X.K (gTupD n t)) := ⟨fun pins s σ H v u Q I r hh => (pg_tup hc h hn hst).run pins s σ H v u Q I r (by
  obtain ⟨M, ρ, d, P, st, rd, hd, q⟩ := hh
  unfold gTupD at hd
  split at hd
  · cases rd with
    | tup e rr => exact ⟨_, _, rfl, e.sq, by rw [← rr.length]; exact hd.1, M, ρ, _, P, st, rr, hd.2, q⟩
  · exact hd.elim)⟩
def gsNil : List D → List S → (List S → Prop) → Prop := fun ds ρ Q => Q ρ
/-- names alone: one after the other -/
def gsN : List Nat → List D → List S → (List S → Prop) → Prop
  | [], [], ρ, Q => Q ρ
  | i :: is, d :: ds, ρ, Q => gsN is ds (ρ.set i (.val d)) Q
  | _, _, _, _ => False
theorem dgs_nil : PGs X [] (liftGs g X.K (gsN [])) := ⟨fun pins s σ H vs us Q I r h => pgs_nil.run pins s σ H vs us Q I r (by
  obtain ⟨M, ρ, ds, P, st, rd, h, q⟩ := h
  cases rd with
  | nil => exact ⟨rfl, q _ h _ _ _ st⟩
  | cons a b => exact h.elim)⟩
theorem dgs_cons {i : Nat} {is : List Nat} {ts : List Expr} {pos : Pos} (hN : X.N.Nodup) (ht : PGs X ts (liftGs g X.K (gsN is))) (hi : X.N[i]? = some x := by rfl) (hx : Loc X.env.scope x := by first | exact Or.inl rfl | exact Or.inr rfl) (hf : X.fn x = true ∨ X.env.scope.names.lookup x = some .local := by first | exact .inl rfl | exact .inr rfl) :
    PGs X (.Name x pos :: ts) (liftGs g X.K (gsN (i :: is))) := ⟨fun pins s σ H vs us Q I r h => (pgs_cons (pg_name hN hi hx hf) ht).run pins s σ H vs us Q I r (by
  obtain ⟨M, ρ, ds, P, st, rd, h, q⟩ := h
  cases rd with
  | nil => exact h.elim
  | cons a b => exact ⟨_, _, rfl, M, _, _, P, st.set i a, b, h, q⟩)⟩
end
end DL
namespace DL
open PySem PySem.Spec PyProof.Rows L2
section
variable {X : Cx} {g : G} {e o c a b tg iter : Expr} {es : List Expr} {w wa wb : WE} {wc wc' : WT} {t : WA} {pos p apos : Pos} {f : F} {EW : D → Prop} {k : Nat} {fa : Addr} {x m : Str} {st : Stmt} {rest sa sb body : List Stmt} {u v : WS}
/-! ### what is walked -/
/-- the iterator J walks these items while the ghosts stand -/
structure ItOk (g : G) (K : PySem.W.Frag) (J : It) (items : List D) (gh : List (V × D)) : Prop where
  go : ∀ i M H, g.rg ∈ M → Live H M → g.T H → (∀ q ∈ gh, Rep K g.rg M H q.2 q.1) → i < items.length → J.go i H
  yld : ∀ i M H x H', g.rg ∈ M → Live H M → g.T H → (∀ q ∈ gh, Rep K g.rg M H q.2 q.1) → i < items.length → J.yld i H x H' → Ext g.T g.rg H H' ∧ ∃ d, items[i]? = some d ∧ Rep K g.rg M H' d x
  stop : ∀ i M H, g.rg ∈ M → Live H M → g.T H → (∀ q ∈ gh, Rep K g.rg M H q.2 q.1) → items.length ≤ i → J.stop i H
abbrev WI := List S → (List D → Prop) → Prop
def liftI (g : G) (K : PySem.W.Frag) (wi : WI) : TI := fun σ H R => ∃ M ρ P, St g K M σ H ρ ∧ wi ρ P ∧ ∀ items, P items → ∀ H' J gh, Ext g.T g.rg H H' → (∀ q ∈ gh, Rep K g.rg M H' q.2 q.1) → ItOk g K J items gh → R J H'
theorem pi_imp {i1 i2 : TI} (h : PI X tg iter i1) (k : ∀ σ H R, i2 σ H R → i1 σ H R) : PI X tg iter i2 := ⟨fun pins s σ H R I q => h.run pins s σ H R I (k _ _ _ q)⟩
theorem pi_or {i1 i2 : TI} (h : PI X tg iter i1) (h2 : PI X tg iter i2) : PI X tg iter (fun σ H R => i1 σ H R ∨ i2 σ H R) := ⟨fun pins s σ H R I q => by
  rcases q with q | q
  · exact h.run pins s σ H R I q
  · exact h2.run pins s σ H R I q⟩
def wIL (w : WE) : WI := fun ρ Q => w ρ fun d => match d with
  | .lst ds => Q ds
  | _ => False
def wIT (w : WE) : WI := fun ρ Q => w ρ fun d => match d with
  | .tup ds => Q ds
  | _ => False
theorem itl_ok {K : PySem.W.Frag} {p : Addr} {ds : List D} : ItOk g K (Itl K p) ds [(.ref p, .lst ds)] := by
  refine ⟨fun i M H _ _ _ hg hi => ?_, fun i M H x H' _ _ _ hg hi hy => ?_, fun i M H _ _ _ hg hi => ?_⟩
  · cases hg _ (List.mem_singleton.mpr rfl) with
    | lst n e r => exact ⟨_, _, SqL.of e, List.getElem?_eq_getElem (by rw [← r.length]; exact hi)⟩
  · obtain ⟨rfl, q⟩ := hy
    cases hg _ (List.mem_singleton.mpr rfl) with
    | lst n e r => exact ⟨Ext.refl _, r.get (q _ (SqL.of e))⟩
  · cases hg _ (List.mem_singleton.mpr rfl) with
    | lst n e r => exact ⟨_, SqL.of e, by rw [← r.length]; exact hi⟩
theorem itt_ok {K : PySem.W.Frag} {p : Addr} {ds : List D} : ItOk g K (Itt K p) ds [(.ref p, .tup ds)] := by
  refine ⟨fun i M H _ _ _ hg hi => ?_, fun i M H x H' _ _ _ hg hi hy => ?_, fun i M H _ _ _ hg hi => ?_⟩
  · cases hg _ (List.mem_singleton.mpr rfl) with
    | tup e r => exact ⟨_, _, e.sq, List.getElem?_eq_getElem (by rw [← r.length]; exact hi)⟩
  · obtain ⟨rfl, q⟩ := hy
    cases hg _ (List.mem_singleton.mpr rfl) with
    | tup e r => exact ⟨Ext.refl _, r.get (q _ e.sq)⟩
  · cases hg _ (List.mem_singleton.mpr rfl) with
    | tup e r => exact ⟨_, e.sq, by rw [← r.length]; exact hi⟩
theorem di_lst (h : PE X iter (liftE g X.K w)) : PI X tg iter (liftI g X.K (wIL w)) := pi_imp (pi_list h) fun σ H R hh => by
  obtain ⟨M, ρ, P, s, h, q⟩ := hh
  refine ⟨M, ρ, _, s, h, fun d h1 H1 v e1 r1 => ?_⟩
  split at h1
  · have r1' := r1
    cases r1 with
    | lst n e r => exact ⟨_, rfl, ⟨_, SqL.of e⟩, q _ h1 H1 _ _ e1 (by intro z hz; rw [List.mem_singleton.mp hz]; exact r1') itl_ok⟩
  · exact h1.elim
theorem di_tup (h : PE X iter (liftE g X.K w)) : PI X tg iter (liftI g X.K (wIT w)) := pi_imp (pi_tup h) fun σ H R hh => by
  obtain ⟨M, ρ, P, s, h, q⟩ := hh
  refine ⟨M, ρ, _, s, h, fun d h1 H1 v e1 r1 => ?_⟩
  split at h1
  · have r1' := r1
    cases r1 with
    | tup e r => exact ⟨_, rfl, ⟨_, e.sq⟩, q _ h1 H1 _ _ e1 (by intro z hz; rw [List.mem_singleton.mp hz]; exact r1') itt_ok⟩
  · exact h1.elim
def rangeD (lo : Int) (n : Nat) : List D := (List.range n).map fun i : Nat => D.int (lo + (i : Int))
def wIR1 (t : WA) : WI := fun ρ Q => t ρ fun ds => match ds with
  | [.int j] => -(2 ^ 62) ≤ j ∧ j < 2 ^ 62 ∧ Q (rangeD 0 j.toNat)
  | _ => False
def wIR2 (t : WA) : WI := fun ρ Q => t ρ fun ds => match ds with
  | [.int i, .int j] => (-(2 ^ 62) ≤ i ∧ i < 2 ^ 62 ∧ -(2 ^ 62) ≤ j ∧ j < 2 ^ 62) ∧ Q (rangeD i (j - i).toNat)
  | _ => False
theorem itr_ok {K : PySem.W.Frag} {lo : Int} {n : Nat} : ItOk g K (Itr lo n) (rangeD lo n) [] := by
  have hl : (rangeD lo n).length = n := by simp [rangeD]
  refine ⟨fun i M H _ _ _ hg hi => by rw [hl] at hi; exact hi, fun i M H x H' _ _ _ hg hi hy => ?_, fun i M H _ _ _ hg hi => by rw [hl] at hi; exact hi⟩
  obtain ⟨rfl, rfl⟩ := hy
  rw [hl] at hi
  exact ⟨Ext.refl _, .int (lo + i), by simp [rangeD, hi], .int _⟩
theorem di_range1 {a : Expr} {p pos : Pos} (hm : X.mg "range" = none) (ha : PA X [a] (liftA g X.K t)) (hg : Gl X "range" := by rfl) (hs : starEach [a] X.env = [(false, eval a X.env)] := by rfl) : PI X tg (.Call (.Name "range" p) [a] [] pos) (liftI g X.K (wIR1 t)) :=
  pi_imp (pi_range1 hg hm ha hs) fun σ H R hh => by
    obtain ⟨M, ρ, P, s, h, q⟩ := hh
    refine ⟨M, ρ, _, s, h, fun ds h1 H1 vs e1 r1 => ?_⟩
    split at h1
    · cases r1 with
      | cons r r2 => cases r2; exact ⟨_, by rw [r.int_v], h1.1, h1.2.1, q _ h1.2.2 H1 _ [] e1 (fun _ z => nomatch z) itr_ok⟩
    · exact h1.elim
theorem di_range2 {a b : Expr} {p pos : Pos} (hm : X.mg "range" = none) (ha : PA X [a, b] (liftA g X.K t)) (hg : Gl X "range" := by rfl) (hs : starEach [a, b] X.env = [(false, eval a X.env), (false, eval b X.env)] := by rfl) (hs2 : starEach [b] X.env = [(false, eval b X.env)] := by rfl) :
    PI X tg (.Call (.Name "range" p) [a, b] [] pos) (liftI g X.K (wIR2 t)) :=
  pi_imp (pi_range2 hg hm ha hs hs2) fun σ H R hh => by
    obtain ⟨M, ρ, P, s, h, q⟩ := hh
    refine ⟨M, ρ, _, s, h, fun ds h1 H1 vs e1 r1 => ?_⟩
    split at h1
    · cases r1 with
      | cons r r2 => cases r2 with
        | cons r3 r4 => cases r4; exact ⟨_, _, by rw [r.int_v, r3.int_v], h1.1, q _ h1.2 H1 _ [] e1 (fun _ z => nomatch z) itr_ok⟩
    · exact h1.elim
/-- zip of two lists -/
def zipD : List D → List D → List D
  | a :: as, b :: bs => .tup [a, b] :: zipD as bs
  | _, _ => []
def wIZ (t : WA) : WI := fun ρ Q => t ρ fun ds => match ds with
  | [.lst as, .lst bs] => Q (zipD as bs)
  | _ => False
theorem zipD_len : ∀ (as bs : List D), (zipD as bs).length = min as.length bs.length
  | [], _ => by simp [zipD]
  | _ :: _, [] => by simp [zipD]
  | _ :: as, _ :: bs => by simp [zipD, zipD_len as bs]
theorem zipD_get : ∀ (as bs : List D) (i : Nat) (x y : D), as[i]? = some x → bs[i]? = some y → (zipD as bs)[i]? = some (.tup [x, y])
  | a :: as, b :: bs, 0, x, y, h1, h2 => by simp at h1 h2; simp [zipD, h1, h2]
  | a :: as, b :: bs, i + 1, x, y, h1, h2 => by simpa [zipD] using zipD_get as bs i x y (by simpa using h1) (by simpa using h2)
  | [], _, i, x, y, h1, h2 => by simp at h1
  | _ :: _, [], i, x, y, h1, h2 => by simp at h2
theorem itz_ok {K : PySem.W.Frag} {p q : Addr} {as bs : List D} (hT : TOk g.T) : ItOk g K (Itz K p q) (zipD as bs) [(.ref p, .lst as), (.ref q, .lst bs)] := by
  have inv : ∀ {M : List Addr} {H : Hp}, (∀ z ∈ [((.ref p : V), D.lst as), (.ref q, .lst bs)], Rep K g.rg M H z.2 z.1) → (∃ xs, H p = some (.lst xs) ∧ Reps K g.rg M H as xs) ∧ ∃ ys, H q = some (.lst ys) ∧ Reps K g.rg M H bs ys := fun {M H} hg => by
    have h1 := hg (.ref p, .lst as) (by simp)
    have h2 := hg (.ref q, .lst bs) (by simp)
    cases h1 with
    | lst n1 e1 r1 => cases h2 with
      | lst n2 e2 r2 => exact ⟨⟨_, e1, r1⟩, _, e2, r2⟩
  refine ⟨fun i M H _ _ _ hg hi => ?_, fun i M H x H' hr hl ht hg hi hy => ?_, fun i M H _ _ _ hg hi => ?_⟩
  · rw [zipD_len] at hi
    obtain ⟨⟨xs, e1, r1⟩, ys, e2, r2⟩ := inv hg
    exact ⟨_, _, _, _, SqL.of e1, SqL.of e2, List.getElem?_eq_getElem (by rw [← r1.length]; omega), List.getElem?_eq_getElem (by rw [← r2.length]; omega)⟩
  · obtain ⟨⟨xs, e1, r1⟩, ys, e2, r2⟩ := inv hg
    obtain ⟨T, x', y', rfl, hn, rfl, q1, q2⟩ := hy
    obtain ⟨d1, g1, rr1⟩ := r1.get (q1 _ (SqL.of e1))
    obtain ⟨d2, g2, rr2⟩ := r2.get (q2 _ (SqL.of e2))
    exact ⟨ext_new hT hl hr hn, _, zipD_get _ _ _ _ _ g1 g2, rep_tup hT hl hr hn (.cons rr1 (.cons rr2 .nil))⟩
  · rw [zipD_len] at hi
    obtain ⟨⟨xs, e1, r1⟩, ys, e2, r2⟩ := inv hg
    refine ⟨_, _, SqL.of e1, SqL.of e2, ?_⟩
    rw [← r1.length, ← r2.length]
    omega
theorem di_zip {e e2 : Expr} {p pos tpos : Pos} {elts : List Expr} {kk : Nat} (hT : TOk g.T) (hm : X.mg "zip" = none) (ha : PA X [e, e2] (liftA g X.K t)) (hg : Gl X "zip" := by rfl)
    (hs : starEach [e, e2] X.env = (false, eval e X.env) :: starEach [e2] X.env := by rfl) (hpl : (backTo pos (starEach [e2] X.env)).any (·.1) = false := by rfl) :
    PI X (.Tuple elts kk tpos) (.Call (.Name "zip" p) [e, e2] [] pos) (liftI g X.K (wIZ t)) := pi_imp (pi_zip hg hm ha hs hpl) fun σ H R hh => by
  obtain ⟨M, ρ, P, s, h, q⟩ := hh
  refine ⟨M, ρ, _, s, h, fun ds h1 H1 vs e1 r1 => ?_⟩
  split at h1
  · cases r1 with
    | cons r r2 => cases r2 with
      | cons r3 r4 =>
        cases r4
        have r' := r
        have r3' := r3
        cases r with
        | lst n1 ee1 rr1 => cases r3 with
          | lst n2 ee2 rr2 =>
            refine ⟨_, _, _, _, rfl, SqL.of ee1, SqL.of ee2, q _ h1 H1 _ _ e1 ?_ (itz_ok hT)⟩
            intro z hz
            rcases List.mem_cons.mp hz with rfl | hz
            · exact r'
            · rw [List.mem_singleton.mp hz]; exact r3'
  · exact h1.elim
/-! ### for -/
def wFor (wi : WI) (tg : WG) (body : WS) : WS := fun E ρ => wi ρ fun items => ∃ I : Nat → List S → Prop, I 0 ρ ∧
  (∀ i d ρ', items[i]? = some d → I i ρ' → tg d ρ' fun ρ2 => body { E with nx := I (i + 1), ct := I (i + 1), bk := E.nx } ρ2) ∧ ∀ ρ', I items.length ρ' → E.nx ρ'
theorem St.gh_of {K : PySem.W.Frag} {M : List Addr} {σ : L2.St} {H : Hp} {ρ : List S} (s : St g K M σ H ρ) {gh : List (V × D)} (h : ∀ q ∈ gh, Rep K g.rg M H q.2 q.1) : St { g with gh := gh ++ g.gh } K M σ H ρ :=
  ⟨s.sub, s.rg, s.live, s.ext, s.t, s.sl, s.ap, s.own, fun q hq => (List.mem_append.mp hq).elim (h q) (s.gh q)⟩
theorem St.gh_un {K : PySem.W.Frag} {M : List Addr} {σ : L2.St} {H : Hp} {ρ : List S} {gh : List (V × D)} (s : St { g with gh := gh ++ g.gh } K M σ H ρ) : St g K M σ H ρ :=
  ⟨s.sub, s.rg, s.live, s.ext, s.t, s.sl, s.ap, s.own, fun q hq => s.gh q (List.mem_append.mpr (.inr hq))⟩
theorem St.gh_at {K : PySem.W.Frag} {M : List Addr} {σ : L2.St} {H : Hp} {ρ : List S} {gh : List (V × D)} (s : St { g with gh := gh ++ g.gh } K M σ H ρ) : ∀ q ∈ gh, Rep K g.rg M H q.2 q.1 := fun q hq => s.gh q (List.mem_append.mpr (.inl hq))
theorem ds_for {tgD : WG} {wi : WI} (hp : PassesOwn (model X.prog X.w) X.A X.env X.xe) (hc : X.calm = true) (hi : PI X tg iter (liftI g X.K wi)) (hg : ∀ gh, PG X tg (liftG { g with gh := gh } X.K tgD)) (hb : ∀ gh, PSs X body (liftS { g with gh := gh } X.K u))
    (hs : ∀ x, foldedSetIterable iter X.env x = pure x := by intro _; rfl) : PS X (.For tg iter body [] pos) (liftS g X.K (wFor wi tgD u)) := by
  have hg' : PG X tg (fun v σ H Q => ∃ gh, liftG { g with gh := gh } X.K tgD v σ H Q) := ⟨fun pins s σ H v y Q I r q => let ⟨gh, q⟩ := q; (hg gh).run pins s σ H v y Q I r q⟩
  have hb' : PSs X body (fun D σ H => ∃ gh, liftS { g with gh := gh } X.K u D σ H) := ⟨fun pins s σ H D I q => let ⟨gh, q⟩ := q; (hb gh).run pins s σ H D I q⟩
  refine ps_imp (ps_for hp hc hi hg' hb' hs) ?_
  rintro D σ H ⟨M, ρ, E, s, h, l⟩
  refine ⟨M, ρ, _, s, h, fun items hit H1 J gh e1 rg ok => ?_⟩
  obtain ⟨Iv, i0, ih, ie⟩ := hit
  have s1 := (s.mono e1).gh_of rg
  refine ⟨fun i m σ' H' => m = items.length - i ∧ i ≤ items.length ∧ ∃ M' ρ', St { g with gh := gh ++ g.gh } X.K M' σ' H' ρ' ∧ Iv i ρ', ⟨_, rfl, Nat.zero_le _, M, ρ, s1, i0⟩, ?_⟩
  rintro i m σ' H' ⟨rfl, hi', M', ρ', s', hI⟩
  by_cases hlt : i < items.length
  · refine .inr ⟨ok.go i M' H' s'.rgM s'.live s'.t s'.gh_at hlt, fun σ2 H2 => i + 1 ≤ items.length ∧ ∃ M2 ρ2, St { g with gh := gh ++ g.gh } X.K M2 σ2 H2 ρ2 ∧ Iv (i + 1) ρ2, fun σ2 H2 hN => ⟨_, by omega, rfl, hN.1, hN.2⟩, fun x Hy hy => ?_⟩
    obtain ⟨ey, d, hd, rd⟩ := ok.yld i M' H' x Hy s'.rgM s'.live s'.t s'.gh_at hlt hy
    refine ⟨gh ++ g.gh, M', ρ', d, _, s'.mono ey, rd, ih i d ρ' hd hI, fun ρ2 hρ2 σ2 H2 M2 s2 => ?_⟩
    exact ⟨gh ++ g.gh, M2, ρ2, _, s2, hρ2, ⟨fun ρ3 h3 σ3 H3 M3 s3 => ⟨by omega, M3, ρ3, s3, h3⟩, l.rt, fun ρ3 h3 σ3 H3 M3 s3 => l.nx _ h3 _ _ _ s3.gh_un, fun ρ3 h3 σ3 H3 M3 s3 => ⟨by omega, M3, ρ3, s3, h3⟩⟩⟩
  · have he : i = items.length := by omega
    subst he
    exact .inl ⟨ok.stop _ M' H' s'.rgM s'.live s'.t s'.gh_at (Nat.le_refl _), l.nx _ (ie _ hI) _ _ _ s'.gh_un⟩
end
end DL
namespace DL
open PySem PySem.Spec PyProof.Rows L2
section
variable {X : Cx} {g : G} {e o c a b tg iter elt : Expr} {es ifs : List Expr} {w wa wb we : WE} {wc wc' tt : WT} {t : WA} {pos p apos : Pos} {f : F} {EW : D → Prop} {k : Nat} {fa : Addr} {x m : Str} {st : Stmt} {rest sa sb body : List Stmt} {u v : WS}
/-! ### while -/
def wWhile (c : WT) (body : WS) : WS := fun E ρ => ∃ I : Nat → List S → Prop, (∃ m, I m ρ) ∧ ∀ m ρ', I m ρ' → c ρ' fun b => match b with
  | true => ∃ N : List S → Prop, (∀ ρ2, N ρ2 → ∃ m', m' < m ∧ I m' ρ2) ∧ body { E with nx := N, ct := N, bk := E.nx } ρ'
  | false => E.nx ρ'
theorem ds_while (hp : PassesOwn (model X.prog X.w) X.A X.env X.xe) (hc : PT X c (liftT g X.K wc)) (hb : PSs X body (liftS g X.K u)) : PS X (.While c body [] pos) (liftS g X.K (wWhile wc u)) := ps_imp (ps_while hp hc hb) fun D σ H h => by
  obtain ⟨M, ρ, E, s, ⟨I, ⟨m, i0⟩, ih⟩, l⟩ := h
  refine ⟨fun m σ' H' => ∃ M' ρ', St g X.K M' σ' H' ρ' ∧ I m ρ', ⟨m, M, ρ, s, i0⟩, ?_⟩
  rintro m σ' H' ⟨M', ρ', s', hI⟩
  refine ⟨M', ρ', _, s', ih m ρ' hI, fun b hb H2 e2 => ?_⟩
  cases b with
  | true =>
    rw [if_pos rfl]
    obtain ⟨N, hN, hbody⟩ := hb
    refine ⟨fun σ3 H3 => ∃ M3 ρ3, St g X.K M3 σ3 H3 ρ3 ∧ N ρ3, fun σ3 H3 ⟨M3, ρ3, s3, n3⟩ => ?_, M', ρ', _, s'.mono e2, hbody, ⟨fun ρ3 h3 σ3 H3 M3 s3 => ⟨M3, ρ3, s3, h3⟩, l.rt, fun ρ3 h3 σ3 H3 M3 s3 => l.nx _ h3 _ _ _ s3, fun ρ3 h3 σ3 H3 M3 s3 => ⟨M3, ρ3, s3, h3⟩⟩⟩
    obtain ⟨m', lt, hi⟩ := hN ρ3 n3
    exact ⟨m', lt, M3, ρ3, s3, hi⟩
  | false =>
    rw [if_neg Bool.false_ne_true]
    exact l.nx _ hb _ _ _ (s'.mono e2)
/-! ### parallel stores of locals -/
def wPar2 (i j : Nat) (t : WA) : WS := fun E ρ => t ρ fun ds => match ds with
  | [d1, d2] => E.nx ((ρ.set i (.val d1)).set j (.val d2))
  | _ => False
theorem ds_par2 {i j : Nat} {x y : Str} {px py pt : Pos} {kt k2 : Nat} {pt2 : Pos} (hc : X.calm = true) (hN : X.N.Nodup) (ha : PA X [a, b] (liftA g X.K t)) (hi : X.N[i]? = some x := by rfl) (hj : X.N[j]? = some y := by rfl) (hij : i ≠ j := by decide)
    (hx : X.env.scope.names.lookup x = some .local := by rfl) (hy : X.env.scope.names.lookup y = some .local := by rfl)
    (hs : ∀ ta, PA X [a, b] ta → PS X (.Assign [.Tuple [.Name x px, .Name y py] kt pt] (.Tuple [a, b] k2 pt2) pos) (tPar i j ta)) :
    PS X (.Assign [.Tuple [.Name x px, .Name y py] kt pt] (.Tuple [a, b] k2 pt2) pos) (liftS g X.K (wPar2 i j t)) := ps_imp (hs _ ha) fun D σ H h => by
  obtain ⟨M, ρ, E, s, h, l⟩ := h
  refine ⟨M, ρ, _, s, h, fun ds hd H1 vs e1 r1 => ?_⟩
  split at hd
  · cases r1 with
    | cons r r2 => cases r2 with
      | cons r3 r4 => cases r4; exact ⟨_, _, rfl, l.nx _ hd _ _ _ (((s.mono e1).set i r).set j r3)⟩
  · exact hd.elim
def wPar3 (i j k : Nat) (t : WA) : WS := fun E ρ => t ρ fun ds => match ds with
  | [d1, d2, d3] => E.nx (((ρ.set i (.val d1)).set j (.val d2)).set k (.val d3))
  | _ => False
/-! ### slots forgotten -/
theorem St.setNo {K : PySem.W.Frag} {M : List Addr} {σ : L2.St} {H : Hp} {ρ : List S} (s : St g K M σ H ρ) (i : Nat) (o : Option V) : St g K M (σ.set i o) H (ρ.set i .no) := by
  refine ⟨s.sub, s.rg, s.live, s.ext, s.t, s.sl.set i .no, ?_, s.own, s.gh⟩
  intro a b t u w hab h1 h2 h3 h4 h5
  have na : a ≠ i := by
    rintro rfl
    by_cases hl : a < ρ.length
    · rw [List.getElem?_set_self hl] at h1; cases h1; cases h2
    · rw [List.getElem?_eq_none (by simp; omega)] at h1; cases h1
  have nb : b ≠ i := by
    rintro rfl
    by_cases hl : b < ρ.length
    · rw [List.getElem?_set_self hl] at h3; cases h3; cases h4
    · rw [List.getElem?_eq_none (by simp; omega)] at h3; cases h3
  rw [List.getElem?_set_ne (Ne.symm na)] at h1 h5
  rw [List.getElem?_set_ne (Ne.symm nb)] at h3 ⊢
  exact s.ap a b t u w hab h1 h2 h3 h4 h5
def wipeD (ρ : List S) : List Nat → List S
  | [] => ρ
  | v :: vs => (wipeD ρ vs).set v .no
theorem St.wipe {K : PySem.W.Frag} {M : List Addr} {σ : L2.St} {H : Hp} {ρ : List S} (s : St g K M σ H ρ) : ∀ vs : List Nat, St g K M (L2.wipe σ vs) H (wipeD ρ vs)
  | [] => s
  | v :: vs => (St.wipe s vs).setNo v none
theorem wipe_get (σ : L2.St) : ∀ (vs : List Nat) (i : Nat), (L2.wipe σ vs)[i]? = if i ∈ vs ∧ i < σ.length then some none else σ[i]?
  | [], i => by simp [L2.wipe]
  | v :: vs, i => by
    unfold L2.wipe
    rw [List.getElem?_set, wipe_length]
    by_cases h : v = i
    · subst h
      by_cases hl : v < σ.length
      · simp [hl]
      · simp [hl]
    · rw [if_neg h, wipe_get σ vs i]
      have : i ≠ v := fun z => h z.symm
      simp [this]
theorem wipe_ext {σ τ : L2.St} {vs : List Nat} (hl : σ.length = τ.length) (h : ∀ i, i ∉ vs → σ[i]? = τ[i]?) : L2.wipe σ vs = L2.wipe τ vs := by
  apply List.ext_getElem?
  intro i
  rw [wipe_get, wipe_get, hl]
  by_cases hi : i ∈ vs
  · by_cases h2 : i < τ.length
    · simp [hi, h2]
    · simp [hi, h2, List.getElem?_eq_none (show τ.length ≤ i by omega), List.getElem?_eq_none (show σ.length ≤ i by omega)]
  · simp [hi, h i hi]
theorem Slots.other {K : PySem.W.Frag} {rg : Addr} {M : List Addr} {H0 H H' : Hp} {q : Addr} (em : ExtM rg M H H') (hb : ∀ b, b ≠ q → H' b = H b) : ∀ {σ : L2.St} {ρ : List S}, Slots K rg M H0 H σ ρ → (∀ (i : Nat) (z : S), ρ[i]? = some z → z.isOwn = true → σ[i]? ≠ some (some (.ref q))) → Slots K rg M H0 H' σ ρ := by
  intro σ ρ h
  induction h with
  | nil => exact fun _ => .nil
  | cons r t ih =>
    intro hn
    refine .cons ?_ (ih fun i z hz ho => hn (i + 1) z (by simpa using hz) ho)
    cases r with
    | no => exact .no
    | val r => exact .val (Rep.mono em r)
    | own a1 a2 a3 a4 a5 => exact .own a1 a2 a3 (by rw [hb _ (fun z => hn 0 _ rfl rfl (by rw [z]; rfl))]; exact a4) (Reps.mono em a5)
    | new a1 a2 a3 a4 a5 => exact .new a1 a2 a3 (by rw [hb _ (fun z => hn 0 _ rfl rfl (by rw [z]; rfl))]; exact a4) (RepF.mono em a5)
/-- an own list, or one under construction, is written -/
theorem St.write {K : PySem.W.Frag} {M : List Addr} {σ : L2.St} {H : Hp} {ρ : List S} {q : Addr} {xs ys : List V} (s : St g K M σ H ρ) (hT : TOk g.T) (hq : q ∈ M) (hr : q ≠ g.rg) (h0 : Fr0 g.H0 q) (hH : H q = some (.lst xs))
    (hno : ∀ (i : Nat) (z : S), ρ[i]? = some z → z.isOwn = true → σ[i]? ≠ some (some (.ref q))) : St g K M σ (upd H q (.lst ys)) ρ := by
  have em : ExtM g.rg M H (upd H q (.lst ys)) := ⟨fun b o hb _ e => by rw [upd_ne (fun z => hb (by rw [z]; exact hq))]; exact e, fun o e => ⟨o, by rw [upd_ne (Ne.symm hr)]; exact e, fun z => z⟩⟩
  have ht : g.T (upd H q (.lst ys)) := hT H _ (fun b o e => by
    by_cases z : b = q
    · rw [z, hH] at e
      cases e
      exact .inr ⟨fun ps z => (nomatch z), fun φ z => (nomatch z)⟩
    · exact .inl (by rw [upd_ne z]; exact e)) s.t
  have ext : Ext g.T g.rg g.H0 (upd H q (.lst ys)) := by
    refine ⟨fun b o nb nt e => ?_, fun o e => ?_, fun _ => ht, fun b o nt e => ?_⟩
    · have nq : b ≠ q := h0.ne nt e
      rw [upd_ne nq]
      exact s.ext.keep b o nb nt e
    · rw [upd_ne (Ne.symm hr)]
      exact s.ext.rng o e
    · by_cases z : b = q
      · exact ⟨.lst ys, by rw [z]; exact upd_same, fun ps z => (nomatch z)⟩
      · rw [upd_ne z]
        exact s.ext.there b o nt e
  have live : Live (upd H q (.lst ys)) M := fun b hb => by
    by_cases z : b = q
    · exact ⟨.lst ys, by rw [z]; exact upd_same, fun ps z => (nomatch z)⟩
    · rw [upd_ne z]
      exact s.live b hb
  have sl : ∀ (σ : L2.St) (ρ : List S), Slots K g.rg M g.H0 H σ ρ → (∀ (i : Nat) (z : S), ρ[i]? = some z → z.isOwn = true → σ[i]? ≠ some (some (.ref q))) → Slots K g.rg M g.H0 (upd H q (.lst ys)) σ ρ := by
    intro σ ρ h
    induction h with
    | nil => exact fun _ => .nil
    | cons r t ih =>
      intro hn
      refine .cons ?_ (ih fun i z hz ho => hn (i + 1) z (by simpa using hz) ho)
      cases r with
      | no => exact .no
      | val r => exact .val (Rep.mono em r)
      | own a1 a2 a3 a4 a5 => exact .own a1 a2 a3 (by rw [upd_ne (fun z => hn 0 _ rfl rfl (by rw [z]; rfl))]; exact a4) (Reps.mono em a5)
      | new a1 a2 a3 a4 a5 => exact .new a1 a2 a3 (by rw [upd_ne (fun z => hn 0 _ rfl rfl (by rw [z]; rfl))]; exact a4) (RepF.mono em a5)
  exact ⟨s.sub, s.rg, live, ext, ht, sl σ ρ s.sl hno, s.ap, s.own, fun z hz => Rep.mono em (s.gh z hz)⟩
/-- a new own thing is laid -/
theorem St.lay {K : PySem.W.Frag} {M : List Addr} {σ : L2.St} {H : Hp} {ρ : List S} {q : Addr} {o : HO} (s : St g K M σ H ρ) (hT : TOk g.T) (hq : H q = none) (nt : ∀ ps, o ≠ .tbl ps) : St g K (q :: M) σ (upd H q o) ρ := by
  have e := ext_new (o := o) hT s.live s.rgM hq
  have s1 := s.mono e
  have fr : ∀ {d : D} {v : V}, Rep K g.rg M H d v → Rep K g.rg (q :: M) (upd H q o) d v := fun r => Rep.monoE e (List.mem_cons_of_mem _ s.rgM) (Rep.fresh hq r)
  have frs : ∀ {d : List D} {v : List V}, Reps K g.rg M H d v → Reps K g.rg (q :: M) (upd H q o) d v := fun r => Reps.monoE e (List.mem_cons_of_mem _ s.rgM) (Reps.fresh hq r)
  have frf : ∀ {d : List (Str × D)} {v : List (Str × V)}, RepF K g.rg M H d v → RepF K g.rg (q :: M) (upd H q o) d v := fun r => RepF.mono (e.m (List.mem_cons_of_mem _ s.rgM)) (RepF.fresh hq r)
  have sl : ∀ (σ : L2.St) (ρ : List S), Slots K g.rg M g.H0 H σ ρ → Slots K g.rg (q :: M) g.H0 (upd H q o) σ ρ := by
    intro σ ρ h
    induction h with
    | nil => exact .nil
    | cons r t ih =>
      refine .cons ?_ ih
      cases r with
      | no => exact .no
      | val r => exact .val (fr r)
      | own a1 a2 a3 a4 a5 => exact .own (List.mem_cons_of_mem _ a1) a2 a3 (by rw [upd_ne (ne_of_none a4 hq)]; exact a4) (frs a5)
      | new a1 a2 a3 a4 a5 => exact .new (List.mem_cons_of_mem _ a1) a2 a3 (by rw [upd_ne (ne_of_none a4 hq)]; exact a4) (frf a5)
  refine ⟨fun a ha => List.mem_cons_of_mem _ (s.sub a ha), s.rg, fun a ha => ?_, s1.ext, s1.t, sl σ ρ s.sl, s.ap, fun a ha => ?_, fun z hz => fr (s.gh z hz)⟩
  · rcases List.mem_cons.mp ha with rfl | ha
    · exact ⟨o, upd_same, nt⟩
    · exact s1.live a ha
  · rcases List.mem_cons.mp ha with rfl | ha
    · exact .inr (s.ext.free hq)
    · exact s.own a ha
/-! ### list comprehensions -/
/-- the comprehension's names: one, or some that take a tuple -/
inductive Tg where
  | one (i : Nat) | many (is : List Nat)
def Tg.put : Tg → D → List S → (List S → Prop) → Prop
  | .one i, d, ρ, Q => Q (ρ.set i (.val d))
  | .many is, .tup ds, ρ, Q => gsN is ds ρ Q
  | .many _, _, _, _ => False
def rawGs : List Nat → TGs
  | [] => gNil
  | i :: is => gCons (gName i) (rawGs is)
def Tg.raw (K : PySem.W.Frag) : Tg → TG
  | .one i => gName i
  | .many is => gTup K is.length (rawGs is)
def Tg.ids : Tg → List Nat
  | .one i => [i]
  | .many is => is
theorem rawGs_ok {g : G} {K : PySem.W.Frag} {M : List Addr} {H : Hp} {P : List S → Prop} {Q : L2.St → Hp → Prop} : ∀ {is : List Nat} {ds : List D} {vs : List V} {σ : L2.St} {ρ : List S}, St g K M σ H ρ → Reps K g.rg M H ds vs → gsN is ds ρ P →
    (∀ ρ' σ', P ρ' → St g K M σ' H ρ' → σ'.length = σ.length → (∀ i, i ∉ is → σ'[i]? = σ[i]?) → Q σ' H) → rawGs is vs σ H Q
  | [], [], [], σ, ρ, s, .nil, h, q => ⟨rfl, q ρ σ h s rfl fun _ _ => rfl⟩
  | [], d :: ds, _, σ, ρ, s, r, h, q => h.elim
  | i :: is, [], _, σ, ρ, s, r, h, q => h.elim
  | i :: is, d :: ds, v :: vs, σ, ρ, s, .cons r t, h, q => ⟨v, vs, rfl, rawGs_ok (s.set i r) t h fun ρ' σ' hp s' hl hi => q ρ' σ' hp s' (by rw [hl, List.length_set]) fun j hj => by
      rw [hi j (fun z => hj (List.mem_cons_of_mem _ z)), List.getElem?_set_ne (fun z => hj (by rw [z]; exact List.mem_cons_self))]⟩
theorem Tg.raw_ok {K : PySem.W.Frag} {M : List Addr} {H : Hp} {P : List S → Prop} {Q : L2.St → Hp → Prop} {tgt : Tg} {d : D} {v : V} {σ : L2.St} {ρ : List S} (s : St g K M σ H ρ) (r : Rep K g.rg M H d v) (h : tgt.put d ρ P)
    (q : ∀ ρ' σ', P ρ' → St g K M σ' H ρ' → σ'.length = σ.length → (∀ i, i ∉ tgt.ids → σ'[i]? = σ[i]?) → Q σ' H) : tgt.raw K v σ H Q := by
  cases tgt with
  | one i => exact q _ _ h (s.set i r) List.length_set fun j hj => List.getElem?_set_ne (fun z => hj (by rw [← z]; exact List.mem_singleton.mpr rfl))
  | many is =>
    unfold Tg.put at h
    split at h
    case h_1 => rename_i he; cases he
    case h_2 is' ds he =>
      cases he
      cases r with
      | tup e rr =>
        have hl : ∀ {P : List S → Prop} {is : List Nat} {ds : List D} {ρ : List S}, gsN is ds ρ P → ds.length = is.length := by
          intro P is
          induction is with
          | nil => intro ds ρ h; cases ds with
            | nil => rfl
            | cons a b => exact h.elim
          | cons i is ih => intro ds ρ h; cases ds with
            | nil => exact h.elim
            | cons a b => exact congrArg (· + 1) (ih h)
        exact ⟨_, _, rfl, e.sq, by rw [← rr.length, hl h], rawGs_ok s rr h q⟩
    case h_3 => exact h.elim
def wLc (wi : WI) (tgt : Tg) (tt : WT) (we : WE) (own : List Nat) : WE := fun ρ Q => wi ρ fun items => ∃ I : Nat → List D → Prop, I 0 [] ∧
  (∀ i d acc, items[i]? = some d → I i acc → tgt.put d (wipeD ρ own) fun ρ2 => tt ρ2 fun b => match b with
    | true => acc.length < sizeLine ∧ we ρ2 fun y => I (i + 1) (acc ++ [y])
    | false => I (i + 1) acc) ∧ ∀ acc, I items.length acc → Q (.lst acc)
def wYes : WT := fun _ Q => Q true
theorem lc_t {tgt : Tg} {wi : WI} {own : List Nat} {σ : L2.St} {H : Hp} {Q : VK} (hT : TOk g.T) (hids : ∀ i ∈ tgt.ids, i ∈ own) (h : liftE g X.K (wLc wi tgt tt we own) σ H Q) :
    tLc (liftI g X.K wi) (tgt.raw X.K) (fun σ H Q => ∃ gh, liftT { g with gh := gh } X.K tt σ H Q) (fun σ H Q => ∃ gh, liftE { g with gh := gh } X.K we σ H Q) own σ H Q := by
  obtain ⟨M, ρ, P, s, h, q⟩ := h
  refine ⟨M, ρ, _, s, h, fun items hit H1 J gh e1 rg ok D hD => ?_⟩
  obtain ⟨Iv, i0, ih, ie⟩ := hit
  have s1 := (s.mono e1).gh_of rg
  have Dr : D ≠ g.rg := fun z => by
    obtain ⟨o, h⟩ := s1.live.rg s1.rgM
    rw [← z, hD] at h; cases h
  have D0 : Fr0 g.H0 D := s1.ext.free hD
  have DM : D ∉ M := s1.live.new hD
  have sD := (s1.lay (o := .lst []) hT hD fun ps z => (nomatch z)).wipe own
  have hno : ∀ {H' : Hp}, ∀ (i : Nat) (z : S), (wipeD ρ own)[i]? = some z → z.isOwn = true → (L2.wipe σ own)[i]? ≠ some (some (.ref D)) := fun {H'} i z hz ho he => by
    obtain ⟨o, h1, h2⟩ := (s1.wipe own).sl.get hz
    rw [he] at h1
    cases h1
    cases h2 with
    | no => cases ho
    | val => cases ho
    | own a _ _ _ _ => exact DM a
    | new a _ _ _ _ => exact DM a
  refine ⟨fun i m H' => m = items.length - i ∧ i ≤ items.length ∧ ∃ acc av, St { g with gh := gh ++ g.gh } X.K (D :: M) (L2.wipe σ own) H' (wipeD ρ own) ∧ H' D = some (.lst av) ∧ Reps X.K g.rg (D :: M) H' acc av ∧ Ext g.T g.rg H1 H' ∧ Iv i acc,
    ⟨_, rfl, Nat.zero_le _, [], [], sD, upd_same, .nil, ext_new hT s1.live s1.rgM hD, i0⟩, ?_⟩
  rintro i m H' ⟨rfl, hi', acc, av, s', hHD, ra, ex, hI⟩
  by_cases hlt : i < items.length
  · refine .inr ⟨ok.go i _ H' s'.rgM s'.live s'.t s'.gh_at hlt, fun H2 => i + 1 ≤ items.length ∧ ∃ acc av, St { g with gh := gh ++ g.gh } X.K (D :: M) (L2.wipe σ own) H2 (wipeD ρ own) ∧ H2 D = some (.lst av) ∧ Reps X.K g.rg (D :: M) H2 acc av ∧ Ext g.T g.rg H1 H2 ∧ Iv (i + 1) acc,
      fun H2 hN => ⟨_, by omega, rfl, hN.1, hN.2⟩, fun x Hy hy => ?_⟩
    obtain ⟨ey, d, hd, rd⟩ := ok.yld i _ H' x Hy s'.rgM s'.live s'.t s'.gh_at hlt hy
    have sy := s'.mono ey
    have DyD : Hy D = some (.lst av) := ey.keep D _ Dr (fun ps z => (nomatch z)) hHD
    refine Tg.raw_ok sy rd (ih i d acc hd hI) fun ρ2 σ2 h2 s2 hl2 hi2 => ⟨wipe_ext (by rw [hl2, wipe_length]) fun j hj => ?_, gh ++ g.gh, D :: M, ρ2, _, s2, h2, fun bb hb H3 e3 => ?_⟩
    · rw [hi2 j (fun z => hj (hids j z)), wipe_get, if_neg (fun z => hj z.1)]
    · have D3 : H3 D = some (.lst av) := e3.keep D _ Dr (fun ps z => (nomatch z)) DyD
      cases bb with
      | true =>
        refine iteT ?_
        refine ⟨gh ++ g.gh, D :: M, ρ2, _, s2.mono e3, hb.2, fun y hy4 H4 v4 e4 r4 => ?_⟩
        have D4 : H4 D = some (.lst av) := e4.keep D _ Dr (fun ps z => (nomatch z)) D3
        have s4 := (sy.mono e3).mono e4
        refine ⟨av, D4, by rw [← ra.length]; exact hb.1, by omega, acc ++ [y], av ++ [v4], s4.write hT List.mem_cons_self Dr D0 D4 (hno (H' := H4)), upd_same, ?_, ?_, hy4⟩
        · have em : ExtM g.rg (D :: M) H4 (upd H4 D (.lst (av ++ [v4]))) := ⟨fun b o hb _ e => by rw [upd_ne (fun z => hb (by rw [z]; exact List.mem_cons_self))]; exact e, fun o e => ⟨o, by rw [upd_ne (Ne.symm Dr)]; exact e, fun z => z⟩⟩
          exact Reps.mono em ((((ra.monoE ey s'.rgM).monoE e3 s'.rgM).monoE e4 s'.rgM).append (.cons r4 .nil))
        · have e14 := ((ex.trans ey).trans e3).trans e4
          refine ⟨fun b o nb nt e => ?_, fun o e => ?_, fun z => ?_, fun b o nt e => ?_⟩
          · rw [upd_ne (fun z => by rw [z, hD] at e; cases e)]
            exact e14.keep b o nb nt e
          · rw [upd_ne (Ne.symm Dr)]
            exact e14.rng o e
          · exact (s4.write (ys := av ++ [v4]) hT List.mem_cons_self Dr D0 D4 (hno (H' := H4))).t
          · by_cases z : b = D
            · exact ⟨.lst (av ++ [v4]), by rw [z]; exact upd_same, fun ps z => (nomatch z)⟩
            · rw [upd_ne z]
              exact e14.there b o nt e
      | false =>
        refine iteF ?_
        exact ⟨by omega, acc, av, sy.mono e3, D3, (ra.monoE ey s'.rgM).monoE e3 s'.rgM, (ex.trans ey).trans e3, hb⟩
  · have he : i = items.length := by omega
    subst he
    refine .inl ⟨ok.stop _ _ H' s'.rgM s'.live s'.t s'.gh_at (Nat.le_refl _), q _ (ie acc hI) H' _ (e1.trans ex) (.lst DM hHD (Reps.anti (fun a ha => List.mem_cons_of_mem _ ha) ra))⟩
end
end DL
namespace DL
open PySem PySem.Spec PyProof.Rows L2
section
variable {X : Cx} {g : G} {e o c a b tg iter elt : Expr} {es ifs : List Expr} {w wa wb we : WE} {wc wc' tt : WT} {t : WA} {pos p apos : Pos} {f : F} {EW : D → Prop} {k : Nat} {fa : Addr} {x m : Str} {st : Stmt} {rest sa sb body : List Stmt} {u v : WS}
theorem dts_nil {X : Cx} {g : G} : PTs X [] (fun σ H Q => ∃ gh, liftT { g with gh := gh } X.K wYes σ H Q) := ⟨fun pins s σ H Q I h => pts_nil.run pins s σ H Q I (by
  obtain ⟨gh, M, ρ, P, s, h, q⟩ := h
  exact q _ h H (Ext.refl H))⟩
theorem dts_one {X : Cx} {g : G} {c : Expr} {tt : WT} (h : ∀ gh, PT X c (liftT { g with gh := gh } X.K tt)) : PTs X [c] (fun σ H Q => ∃ gh, liftT { g with gh := gh } X.K tt σ H Q) :=
  pts_one ⟨fun pins s σ H Q I q => let ⟨gh, q⟩ := q; (h gh).run pins s σ H Q I q⟩
theorem d_lc {tgt : Tg} {wi : WI} {scope : Scope} {own : List (Str × Nat)} (hT : TOk g.T) (hc : X.calm = true) (hN : X.N.Nodup) (hi : PI X tg iter (liftI g X.K wi)) (ok : BlkOk X.N X.env.scope scope own)
    (hg : ∀ (s : Shared) (H : Hp) (C : Addr) (cl : List (Str × Addr)) (fp : List Addr), PG (X.blk s H scope (compEnvC scope cl C X.env) fp) tg (tgt.raw X.K))
    (ht : ∀ (s : Shared) (H : Hp) (C : Addr) (cl : List (Str × Addr)) (fp : List Addr), PTs (X.blk s H scope (compEnvC scope cl C X.env) fp) ifs (fun σ H Q => ∃ gh, liftT { g with gh := gh } X.K tt σ H Q))
    (he : ∀ (s : Shared) (H : Hp) (C : Addr) (cl : List (Str × Addr)) (fp : List Addr) (gh : List (V × D)), PE (X.blk s H scope (compEnvC scope cl C X.env) fp) elt (liftE { g with gh := gh } X.K we))
    (hids : ∀ i ∈ tgt.ids, i ∈ own.map (·.2) := by decide) (hs : ∀ x, foldedSetIterable iter X.env x = pure x := by intro _; rfl) : PE X (.ListComp elt [⟨tg, iter, ifs, 0⟩] scope pos) (liftE g X.K (wLc wi tgt tt we (own.map (·.2)))) :=
  pe_imp (pe_lc hc hN hi ok hg ht (fun s H C cl fp => ⟨fun pins sh σ H1 Q I q => let ⟨gh, q⟩ := q; (he s H C cl fp gh).run pins sh σ H1 Q I q⟩) hs) fun σ H Q => lc_t hT hids
/-- y = [..], y a local -/
theorem ds_setLc {tgt : Tg} {wi : WI} {scope : Scope} {own : List (Str × Nat)} {i : Nat} {y : Str} {py : Pos} {spos : Pos} (hT : TOk g.T) (hc : X.calm = true) (hN : X.N.Nodup) (hi : PI X tg iter (liftI g X.K wi)) (ok : BlkOk X.N X.env.scope scope own)
    (hg : ∀ (s : Shared) (H : Hp) (C : Addr) (cl : List (Str × Addr)) (fp : List Addr), PG (X.blk s H scope (compEnvC scope cl C X.env) fp) tg (tgt.raw X.K))
    (ht : ∀ (s : Shared) (H : Hp) (C : Addr) (cl : List (Str × Addr)) (fp : List Addr), PTs (X.blk s H scope (compEnvC scope cl C X.env) fp) ifs (fun σ H Q => ∃ gh, liftT { g with gh := gh } X.K tt σ H Q))
    (he : ∀ (s : Shared) (H : Hp) (C : Addr) (cl : List (Str × Addr)) (fp : List Addr) (gh : List (V × D)), PE (X.blk s H scope (compEnvC scope cl C X.env) fp) elt (liftE { g with gh := gh } X.K we))
    (hsw : swapsWith (.ListComp elt [⟨tg, iter, ifs, 0⟩] scope pos) (some (.Name y py)) spos.line X.env = pure true)
    (hy : X.N[i]? = some y := by rfl) (hyl : X.env.scope.names.lookup y = some .local := by rfl)
    (hids : ∀ i ∈ tgt.ids, i ∈ own.map (·.2) := by decide) (hs : ∀ x, foldedSetIterable iter X.env x = pure x := by intro _; rfl) :
    PS X (.Assign [.Name y py] (.ListComp elt [⟨tg, iter, ifs, 0⟩] scope pos) spos) (liftS g X.K (wAsg (wLc wi tgt tt we (own.map (·.2))) (gN i))) :=
  ps_imp (ps_setLc (te := fun σ H Q => ∃ gh, liftE { g with gh := gh } X.K we σ H Q) hc hN hy hyl hsw hi ok hg ht (fun s H C cl fp => ⟨fun pins sh σ H1 Q I q => let ⟨gh, q⟩ := q; (he s H C cl fp gh).run pins sh σ H1 Q I q⟩) hs) fun D σ H h => by
    obtain ⟨M, ρ, E, s, h, l⟩ := h
    refine lc_t (g := g) (X := X) hT hids (Q := fun x H1 => gName i x σ H1 D.nx) ?_
    exact ⟨M, ρ, fun d => E.nx (ρ.set i (.val d)), s, h, fun d hd H1 v e1 r1 => l.nx _ hd _ _ _ ((s.mono e1).set i r1)⟩
/-! ### built-ins by values -/
abbrev FB := List D → (D → Prop) → Prop
def liftC (T : Hp → Prop) (K : PySem.W.Frag) (f : FB) : List V → Hp → VK → Prop := fun vs H Q => ∃ rg M ds P, rg ∈ M ∧ Live H M ∧ T H ∧ Reps K rg M H ds vs ∧ f ds P ∧ ∀ d, P d → ∀ H' v, Ext T rg H H' → Rep K rg M H' d v → Q v H'
def CallD (X : Cx) (T : Hp → Prop) (fv : Value) (f : FB) : Prop := CallR X fv (liftC T X.K f)
def wB (f : FB) (t : WA) : WE := fun ρ Q => t ρ fun ds => f ds Q
theorem b_t {f : FB} {σ : L2.St} {H : Hp} {Q : VK} (h : liftE g X.K (wB f t) σ H Q) : tCB (liftC g.T X.K f) (liftA g X.K t) σ H Q := by
  obtain ⟨M, ρ, P, s, h, q⟩ := h
  refine ⟨M, ρ, _, s, h, fun ds h1 H1 vs e1 r1 => ⟨g.rg, M, ds, P, s.rgM, s.live.mono e1, e1.tab s.t, r1, h1, fun d hd H2 v e2 r2 => q d hd H2 v (e1.trans e2) r2⟩⟩
theorem d_b {id : String} {f : FB} (hc : CallD X g.T (.builtin id) f) (hm : X.mg x = none) (hv : bootBuiltins x = some (.builtin id)) (ha : PA X (e :: es) (liftA g X.K t)) (hg : Gl X x := by rfl) (hn : x ≠ "__name__" := by decide) (hdb : (x == ("__debug__" : Str)) = false := by decide)
    (he : starEach (e :: es) X.env = (false, eval e X.env) :: starEach es X.env := by rfl) (hpl : (backTo pos (starEach es X.env)).any (·.1) = false := by rfl) : PE X (.Call (.Name x p) (e :: es) [] pos) (liftE g X.K (wB f t)) :=
  pe_imp (pe_callB hc hg hm hv ha hn hdb he hpl) fun _ _ _ => b_t
theorem d_ty {ty : String} {f : FB} (hc : CallD X g.T (.type ty) f) (hm : X.mg x = none) (hv : bootBuiltins x = some (.type ty)) (ha : PA X (e :: es) (liftA g X.K t)) (hg : Gl X x := by rfl) (hn : x ≠ "__name__" := by decide) (hdb : (x == ("__debug__" : Str)) = false := by decide)
    (he : starEach (e :: es) X.env = (false, eval e X.env) :: starEach es X.env := by rfl) (hpl : (backTo pos (starEach es X.env)).any (·.1) = false := by rfl) : PE X (.Call (.Name x p) (e :: es) [] pos) (liftE g X.K (wB f t)) :=
  pe_imp (pe_callTy hc hg hm hv ha hn hdb he hpl) fun _ _ _ => b_t
/-- a built-in rule that keeps the heap -/
theorem cd_flat {T : Hp → Prop} {fv : Value} {r : List V → Hp → VK → Prop} {f : FB} (h : CallR X fv r) (k : ∀ rg M H ds vs P Q, rg ∈ M → Reps X.K rg M H ds vs → f ds P → (∀ d, P d → ∀ v, Rep X.K rg M H d v → Q v H) → r vs H Q) : CallD X T fv f := by
  intro pins s σ H xs us Q I r hq
  obtain ⟨rg, M, ds, P, h1, h2, h3, h4, h5, h6⟩ := hq
  exact h pins s σ H xs us Q I r (k rg M H ds xs P Q h1 h4 h5 fun d hd v rv => h6 d hd H v (Ext.refl H) rv)
theorem cd_new {T : Hp → Prop} {fv : Value} {r : List V → Hp → VK → Prop} {f : FB} (hT : TOk T) (h : CallR X fv r) (k : ∀ rg M H ds vs P Q, rg ∈ M → Live H M → Reps X.K rg M H ds vs → f ds P → (∀ d, P d → ∀ v, Rep X.K rg M H d v → Q v H) →
    (∀ d, P d → ∀ p u, H p = none → Rep X.K rg M (upd H p u) d (.ref p) → Q (.ref p) (upd H p u)) → r vs H Q) : CallD X T fv f := by
  intro pins s σ H xs us Q I r hq
  obtain ⟨rg, M, ds, P, h1, h2, h3, h4, h5, h6⟩ := hq
  exact h pins s σ H xs us Q I r (k rg M H ds xs P Q h1 h2 h4 h5 (fun d hd v rv => h6 d hd H v (Ext.refl H) rv) fun d hd p u hp rv => h6 d hd _ _ (ext_new hT h2 h1 hp) rv)
def fAbs : FB
  | [.int i], Q => Q (.int (if i < 0 then -i else i))
  | _, _ => False
theorem cd_abs {T : Hp → Prop} : CallD X T (.builtin "abs") fAbs := cd_flat call_abs fun rg M H ds vs P Q hm r hf q => by
  unfold fAbs at hf
  split at hf
  · cases r with
    | cons a b => cases b; exact ⟨_, by rw [a.int_v], q _ hf _ (.int _)⟩
  · exact hf.elim
def fMax2 : FB
  | [.int i, .int j], Q => Q (.int (if j > i then j else i))
  | _, _ => False
def fMin2 : FB
  | [.int i, .int j], Q => Q (.int (if j < i then j else i))
  | _, _ => False
theorem cd_max2 {T : Hp → Prop} (hc : X.calm = true) : CallD X T (.builtin "max") fMax2 := cd_flat (call_max2 hc) fun rg M H ds vs P Q hm r hf q => by
  unfold fMax2 at hf
  split at hf
  · cases r with
    | cons a b => cases b with
      | cons a' b' => cases b'; exact ⟨_, _, by rw [a.int_v, a'.int_v], q _ hf _ (.int _)⟩
  · exact hf.elim
theorem cd_min2 {T : Hp → Prop} (hc : X.calm = true) : CallD X T (.builtin "min") fMin2 := cd_flat (call_min2 hc) fun rg M H ds vs P Q hm r hf q => by
  unfold fMin2 at hf
  split at hf
  · cases r with
    | cons a b => cases b with
      | cons a' b' => cases b'; exact ⟨_, _, by rw [a.int_v, a'.int_v], q _ hf _ (.int _)⟩
  · exact hf.elim
def fInt : FB
  | [.int i], Q => Q (.int i)
  | [.bl b], Q => Q (.int (if b then 1 else 0))
  | _, _ => False
theorem cd_int {T : Hp → Prop} : CallD X T (.type "int") fInt := cd_flat call_int1 fun rg M H ds vs P Q hm r hf q => by
  unfold fInt at hf
  split at hf
  · cases r with
    | cons a b => cases b; exact .inl ⟨_, by rw [a.int_v], q _ hf _ (.int _)⟩
  · cases r with
    | cons a b => cases b; exact .inr ⟨_, by rw [a.bl_v], q _ hf _ (.int _)⟩
  · exact hf.elim
def fLen : FB
  | [.lst ds], Q => Q (.int ds.length)
  | [.tup ds], Q => Q (.int ds.length)
  | _, _ => False
theorem cd_len {T : Hp → Prop} : CallD X T (.builtin "len") fLen := cd_flat call_len_seq fun rg M H ds vs P Q hm r hf q => by
  unfold fLen at hf
  split at hf
  · cases r with
    | cons a b => cases b; cases a with
      | lst n e r => exact ⟨_, _, rfl, .inl (SqL.of e), by rw [← r.length]; exact q _ hf _ (.int _)⟩
  · cases r with
    | cons a b => cases b; cases a with
      | tup e r => exact ⟨_, _, rfl, .inr e.sq, by rw [← r.length]; exact q _ hf _ (.int _)⟩
  · exact hf.elim
def blsD : List D → Option (List Bool)
  | [] => some []
  | .bl b :: ds => (blsD ds).map (b :: ·)
  | _ => none
theorem bls_v {K : PySem.W.Frag} {rg : Addr} {M : List Addr} {H : Hp} : ∀ {ds : List D} {vs : List V} {bs : List Bool}, Reps K rg M H ds vs → blsD ds = some bs → vs = bs.map V.bl
  | _, _, _, .nil, h => by cases h; rfl
  | _, _, _, .cons (d := d) r t, h => by
    unfold blsD at h
    split at h
    · rename_i he; cases he
    · rename_i b ds he
      cases he
      obtain ⟨bs', h1, h2⟩ := Option.map_eq_some_iff.mp h
      subst h2
      rw [r.bl_v, bls_v t h1]
      rfl
    · cases h
def fAll : FB
  | [.lst ds], Q => (match blsD ds with | some bs => Q (.bl (bs.all id)) | none => False)
  | _, _ => False
def fAny : FB
  | [.lst ds], Q => (match blsD ds with | some bs => Q (.bl (bs.any id)) | none => False)
  | _, _ => False
theorem cd_all {T : Hp → Prop} (hc : X.calm = true) : CallD X T (.builtin "all") fAll := cd_flat (cr_all hc) fun rg M H ds vs P Q hm r hf q => by
  unfold fAll at hf
  split at hf
  · split at hf
    · rename_i bs hb
      cases r with
      | cons a b => cases b; cases a with
        | lst n e r => exact ⟨_, bs, rfl, by rw [← bls_v r hb]; exact SqL.of e, q _ hf _ (.bl _)⟩
    · exact hf.elim
  · exact hf.elim
theorem cd_any {T : Hp → Prop} (hc : X.calm = true) : CallD X T (.builtin "any") fAny := cd_flat (cr_any hc) fun rg M H ds vs P Q hm r hf q => by
  unfold fAny at hf
  split at hf
  · split at hf
    · rename_i bs hb
      cases r with
      | cons a b => cases b; cases a with
        | lst n e r => exact ⟨_, bs, rfl, by rw [← bls_v r hb]; exact SqL.of e, q _ hf _ (.bl _)⟩
    · exact hf.elim
  · exact hf.elim
/-! ### isinstance -/
/-- the type of a value -/
def tyOf (K : PySem.W.Frag) : D → Option Value
  | .non => some (.type "NoneType") | .bl _ => some (.type "bool") | .int _ => some (.type "int") | .str _ => some (.type "str")
  | .tup _ => some (.type "tuple") | .lst _ => some (.type "list") | .dct0 => some (.type "dict") | .obj c _ => some (.ref (He.ga K c)) | _ => none
def clOf (K : PySem.W.Frag) : D → Option Value
  | .ty n => some (.type n) | .cls c => some (.ref (He.ga K c)) | _ => none
/-- what isinstance asks of an own class -/
structure InsK (K : PySem.W.Frag) (c : Str) : Prop where
  cl : Cls K (He.ga K c)
  ha : PySem.W.findIn K (.ref (He.ga K c)) "__class__" = some (some (.builtin "object.__class__"))
  hn : PySem.W.specialIn K (.builtin "object.__class__") "__get__" = some (some (.builtin "getset_descriptor.__get__"))
  tk : PySem.W.takesIn K (.builtin "object.__class__") = some true
  hm : PySem.W.mroIn K (He.ga K c) (.type "object") = some true
theorem rep_ty {K : PySem.W.Frag} {rg : Addr} {M : List Addr} {H : Hp} {d : D} {v : V} {t : Value} (r : Rep K rg M H d v) (h : tyOf K d = some t) (ho : ∀ c fs, d = .obj c fs → InsK K c) : TyX K H v t := by
  cases r with
  | non => cases h; exact .base .non
  | bl b => cases h; exact .base (.bl b)
  | int b => cases h; exact .base (.int b)
  | str b => cases h; exact .base (.str b)
  | ty n => cases h
  | tup e r =>
    cases h
    rcases e with ⟨n, e | ⟨o, e⟩⟩ | ⟨o, its, n, e1, e2, e3, e4, e5⟩
    · exact .base (.tup e)
    · exact .fTuple e
    · exact .kTuple e1 e2
  | lst n e r => cases h; exact .base (.lst e)
  | obj n e r => cases h; have i := ho _ _ rfl; exact .base (.ins e i.cl i.ha i.hn i.tk i.hm)
  | cls c => cases h
  | dct0 n e => cases h; exact .base (.dK e)
  | rng e => cases h
theorem rep_cl {K : PySem.W.Frag} {rg : Addr} {M : List Addr} {H : Hp} {d : D} {v : V} {t : Value} (r : Rep K rg M H d v) (h : clOf K d = some t) : ClsV v t := by
  cases r with
  | ty n => cases h; exact .ty n
  | cls c => cases h; exact .own _
  | non => cases h
  | bl b => cases h
  | int b => cases h
  | str b => cases h
  | tup e r => cases h
  | lst n e r => cases h
  | obj n e r => cases h
  | dct0 n e => cases h
  | rng e => cases h
/-- a table of isinstance's answers -/
def IsiOk (K : PySem.W.Frag) (tab : D → D → Option Bool) : Prop := ∀ x c b, tab x c = some b → ∃ t u, tyOf K x = some t ∧ clOf K c = some u ∧ PySem.W.kitOne K t u = some b ∧ ∀ c fs, x = .obj c fs → InsK K c
@[irreducible] def fIsi (tab : D → D → Option Bool) : FB
  | [x, c], Q => (match tab x c with | some b => Q (.bl b) | none => False)
  | _, _ => False
theorem cd_isi {T : Hp → Prop} {tab : D → D → Option Bool} (h : IsiOk X.K tab) : CallD X T (.builtin "isinstance") (fIsi tab) := cd_flat call_isi fun rg M H ds vs P Q hm r hf q => by
  unfold fIsi at hf
  split at hf
  · split at hf
    · rename_i b hb
      obtain ⟨t, u, h1, h2, h3, h4⟩ := h _ _ _ hb
      cases r with
      | cons r1 r2 => cases r2 with
        | cons r3 r4 => cases r4; exact ⟨_, _, t, u, b, rfl, rep_cl r3 h2, rep_ty r1 h1 h4, h3, q _ hf _ (.bl _)⟩
    · exact hf.elim
  · exact hf.elim
end
end DL
namespace DL
open PySem PySem.Spec PyProof.Rows L2
/-- what a body may lean on -/
structure BD (X : Cx) (g : G) (k : Nat) (EW : D → Prop) : Prop where
  room : Room k X.A
  pass : PassD X g EW
  take : Takes X (fun cls dd _ H => liftX g.T g.rg g.M0 g.H0 X.K EW cls dd H)
  hT : TOk g.T
def startD (N : List Str) (ds : List D) : List S := ds.map .val ++ List.replicate (N.length - ds.length) .no
section
variable {P : Program} {w : World} {K : PySem.W.Frag} {mg : Str → Option Value} {base : Heap} {x qual : Str} {params : Arguments} {body : List Stmt} {scope : Scope} {dvs : List V} {kws : List (Str × V)} {fa : Addr} {fd : FuncData} {N ps : List Str} {k : Nat} {T : Hp → Prop} {f : F}
theorem slots_vals {rg : Addr} {M : List Addr} {H0 H : Hp} : ∀ {ds : List D} {vs : List V}, Reps K rg M H ds vs → ∀ (os : List (Option V)) (ss : List S), Slots K rg M H0 H os ss → Slots K rg M H0 H (vs.map some ++ os) (ds.map .val ++ ss)
  | _, _, .nil, os, ss, h => h
  | _, _, .cons r t, os, ss, h => .cons (.val r) (slots_vals t os ss h)
theorem slots_no {rg : Addr} {M : List Addr} {H0 H : Hp} : ∀ n : Nat, Slots K rg M H0 H (List.replicate n none) (List.replicate n .no)
  | 0 => .nil
  | n + 1 => .cons .no (slots_no n)
theorem noown_start {N : List Str} {ds : List D} {i : Nat} {s : S} (h : (startD N ds)[i]? = some s) : s.isOwn = false := by
  have hm : s ∈ startD N ds := List.mem_of_getElem? h
  unfold startD at hm
  rcases List.mem_append.mp hm with hm | hm
  · obtain ⟨d, _, rfl⟩ := List.mem_map.mp hm
    rfl
  · rw [(List.mem_replicate.mp hm).2]
    rfl
/-- a def's promise by its body -/
theorem fnD (Fd : FunD K x qual params body scope dvs kws fa fd) (S : FnScope N ps scope) {dds : List D} {ds0 : List Value} (hb : Binds K fd ps ds0) {dv0 : List V} (hd : Vals dv0 ds0) (hr0 : ∀ rg M H, Reps K rg M H dds dv0) (len : ∀ ds Q R, f ds Q R → ds.length = ps.length) (hT : TOk T)
    (hbody : ∀ (cdv : Value) (A : Around) (outer : List Env) (s : Shared) (H : Hp) (E : XK) (g : G) (EW : D → Prop) (ds : List D) (Q : D → Prop), g.T = T → BD (cxOf (L2.CX P w) P w K mg base N qual scope fa cdv A outer s H E) g k EW → f ds Q EW →
      ∃ ws, PSs (cxOf (L2.CX P w) P w K mg base N qual scope fa cdv A outer s H E) body (liftS g K ws) ∧ ws { nx := fun _ => Q .non, rt := Q } (startD N ds)) :
    FnR P w K mg base (L2.CX P w) (k + 1) fa (spD T K fun ds Q R => f (ds ++ dds) Q R) := by
  have F : FnOk P w K mg base (L2.CX P w) (k + 1) fa fd ps (spD T K f) := by
    refine Fd.ok S (fun vs H Q E h => ?_) fun cdv A outer s H vs Q E hr hsp => ?_
    · obtain ⟨rg, M, ds, P0, R, h1, h2, h3, h4, h5, h6, h7⟩ := h
      rw [← h4.length, len _ _ _ h5]
    · obtain ⟨rg, M, ds, P0, R, h1, h2, h3, h4, h5, h6, h7⟩ := hsp
      have hW : ∀ (cls : Value) (d : Option Addr) (σ : L2.St) (H' : Hp), liftX T rg M H K R cls d H' → E cls d H' := fun cls d σ H' ⟨x, hx, hext, hR⟩ => h7 x hR H' cls d hext hx
      have tk : Takes (cxOf (L2.CX P w) P w K mg base N qual scope fa cdv A outer s H E) (fun cls d _ H' => E cls d H') := takes_of rfl rfl rfl rfl
      have B : BD (cxOf (L2.CX P w) P w K mg base N qual scope fa cdv A outer s H E) ⟨T, rg, M, H, []⟩ k R :=
        ⟨hr, passes_call tk hW, Takes.imp tk (fun c d (σ : L2.St) H' z => hW c d σ H' z), hT⟩
      obtain ⟨ws, hd, hw⟩ := hbody cdv A outer s H E ⟨T, rg, M, H, []⟩ R ds P0 rfl B h5
      refine ⟨_, hd, M, startD N ds, _, ⟨fun _ z => z, h1, h2, Ext.refl H, h3, ?_, ?_, fun a ha => .inl ha, fun _ z => (nomatch z)⟩, hw, ⟨fun ρ' hq σ' H' M' s' => h6 _ hq H' _ s'.ext .non, h6, fun _ z => z.elim, fun _ z => z.elim⟩⟩
      · show Slots K rg M H H (start N vs) (startD N ds)
        unfold L2.start startD
        rw [← h4.length]
        exact slots_vals h4 _ _ (slots_no _)
      · intro i j s1 t1 v1 _ e1 e2
        rw [noown_start e1] at e2
        cases e2
  refine (F.raw hb hd).imp fun vs H Q E h => ?_
  obtain ⟨rg, M, ds, P0, R, h1, h2, h3, h4, h5, h6, h7⟩ := h
  exact ⟨rg, M, ds ++ dds, P0, R, h1, h2, h3, h4.append (hr0 _ _ _), h5, h6, h7⟩
/-! ### classes -/
/-- the heap without x -/
def rem (x : Addr) (H : Hp) : Hp := fun b => if b = x then none else H b
theorem rem_ne {x b : Addr} {H : Hp} (h : b ≠ x) : rem x H b = H b := if_neg h
theorem rem_same {x : Addr} {H : Hp} : rem x H x = none := if_pos rfl
/-- __init__'s promise: f tells of the arguments what the object becomes -/
def spI (T : Hp → Prop) (K : PySem.W.Frag) (c : Str) (f : F) : Sp := fun vs H Q E => ∃ rg M ds vs' x dx P R, vs = .ref x :: vs' ∧ H x = some (.ins (He.ga K c) dx []) ∧ x ∉ M ∧ rg ∈ M ∧ Live H M ∧ T H ∧ Reps K rg (x :: M) H ds vs' ∧ f ds P R ∧
  (∀ d, P d → ∀ H', Ext T rg (rem x H) H' → Rep K rg M H' d (.ref x) → Q .non H') ∧ (∀ y, R y → ∀ H' cls dd, Ext T rg (rem x H) H' → RepX rg K M H' y cls dd → E cls dd H')
theorem initD {c : Str} (Fd : FunD K x qual params body scope dvs kws fa fd) (S : FnScope N ps scope) {dds : List D} {ds0 : List Value} (hb : Binds K fd ps ds0) {dv0 : List V} (hd : Vals dv0 ds0) (hr0 : ∀ rg M H, Reps K rg M H dds dv0) (len : ∀ ds Q R, f ds Q R → ds.length + 1 = ps.length) (hT : TOk T)
    (hbody : ∀ (cdv : Value) (A : Around) (outer : List Env) (s : Shared) (H : Hp) (E : XK) (g : G) (EW : D → Prop) (ds : List D) (x : Addr) (Q : D → Prop), g.T = T → BD (cxOf (L2.CX P w) P w K mg base N qual scope fa cdv A outer s H E) g k EW → f ds Q EW →
      ∃ ws, PSs (cxOf (L2.CX P w) P w K mg base N qual scope fa cdv A outer s H E) body (liftS g K ws) ∧ ws { nx := fun ρ => ∃ fs, ρ[0]? = some (.new c x fs) ∧ Q (.obj c fs), rt := fun _ => False } (.new c x [] :: startD (N.drop 1) ds)) :
    FnR P w K mg base (L2.CX P w) (k + 1) fa (spI T K c fun ds Q R => f (ds ++ dds) Q R) := by
  have F : FnOk P w K mg base (L2.CX P w) (k + 1) fa fd ps (spI T K c f) := by
    refine Fd.ok S (fun vs H Q E h => ?_) fun cdv A outer s H vs Q E hr hsp => ?_
    · obtain ⟨rg, M, ds, vs', x, dx, P0, R, rfl, h1, h2, h3, h4, h5, h6, h7, _⟩ := h
      rw [List.length_cons, ← h6.length, len _ _ _ h7]
    · obtain ⟨rg, M, ds, vs', x, dx, P0, R, rfl, h1, h2, h3, h4, h5, h6, h7, h8, h9⟩ := hsp
      have xr : x ≠ rg := fun z => h2 (by rw [z]; exact h3)
      have hW : ∀ (cls : Value) (d : Option Addr) (σ : L2.St) (H' : Hp), liftX T rg M (rem x H) K R cls d H' → E cls d H' := fun cls d σ H' ⟨y, hx, hext, hR⟩ => h9 y hR H' cls d hext hx
      have tk : Takes (cxOf (L2.CX P w) P w K mg base N qual scope fa cdv A outer s H E) (fun cls d _ H' => E cls d H') := takes_of rfl rfl rfl rfl
      have B : BD (cxOf (L2.CX P w) P w K mg base N qual scope fa cdv A outer s H E) ⟨T, rg, M, rem x H, []⟩ k R :=
        ⟨hr, passes_call tk hW, Takes.imp tk (fun c d (σ : L2.St) H' z => hW c d σ H' z), hT⟩
      obtain ⟨ws, hd, hw⟩ := hbody cdv A outer s H E ⟨T, rg, M, rem x H, []⟩ R ds x P0 rfl B h7
      have e0 : Ext T rg (rem x H) H := ⟨fun b o _ _ e => by
          by_cases z : b = x
          · rw [z, rem_same] at e; cases e
          · rw [rem_ne z] at e; exact e, fun o e => ⟨o, by rw [rem_ne (Ne.symm xr)] at e; exact e, fun z => z, fun z => z⟩, fun _ => h5, fun b o n e => ⟨o, by
          by_cases z : b = x
          · rw [z, rem_same] at e; cases e
          · rw [rem_ne z] at e; exact e, n⟩⟩
      refine ⟨_, hd, x :: M, .new c x [] :: startD (N.drop 1) ds, _, ⟨fun _ z => List.mem_cons_of_mem _ z, h3, fun a ha => ?_, e0, h5, ?_, ?_, fun a ha => ?_, fun _ z => (nomatch z)⟩, hw, ⟨fun ρ' hq σ' H' M' s' => ?_, fun _ z => z.elim, fun _ z => z.elim, fun _ z => z.elim⟩⟩
      · rcases List.mem_cons.mp ha with rfl | ha
        · exact ⟨_, h1, fun ps z => (nomatch z)⟩
        · exact h4 a ha
      · show Slots K rg (x :: M) (rem x H) H (start N (.ref x :: vs')) (.new c x [] :: startD (N.drop 1) ds)
        unfold L2.start startD
        rw [List.length_drop, List.map_cons, List.length_cons]
        have : N.length - (vs'.length + 1) = N.length - 1 - ds.length := by rw [h6.length]; omega
        rw [this]
        exact .cons (.new List.mem_cons_self xr (Fr0.of rem_same) h1 .nil) (slots_vals h6 _ _ (slots_no _))
      · intro i j s1 t1 v1 hij e1 e2 e3 e4
        have own0 : ∀ {i : Nat} {s1 : DL.S}, (DL.S.new c x [] :: startD (N.drop 1) ds)[i]? = some s1 → s1.isOwn = true → i = 0 := fun {i s1} e1 e2 => by
          cases i with
          | zero => rfl
          | succ i =>
            rw [List.getElem?_cons_succ] at e1
            rw [noown_start e1] at e2
            cases e2
        exact absurd ((own0 e1 e2).trans (own0 e3 e4).symm) hij
      · rcases List.mem_cons.mp ha with rfl | ha
        · exact .inr (Fr0.of rem_same)
        · exact .inl ha
      · obtain ⟨fs, e, hP⟩ := hq
        obtain ⟨o, eo, r⟩ := s'.sl.get e
        cases r with
        | new a1 a2 a3 a4 a5 => exact h8 _ hP H' s'.ext (.obj h2 a4 (RepF.anti s'.sub a5))
  refine (F.raw hb hd).imp fun vs H Q E h => ?_
  obtain ⟨rg, M, ds, vs', x, dx, P0, R, rfl, h1, h2, h3, h4, h5, h6, h7, h8, h9⟩ := h
  exact ⟨rg, M, ds ++ dds, vs' ++ dv0, x, dx, P0, R, rfl, h1, h2, h3, h4, h5, h6.append (hr0 _ _ _), h7, h8, h9⟩
end
end DL
namespace DL
open PySem PySem.Spec PyProof.Rows L2
section
variable {X : Cx} {g : G} {e o c a b tg iter elt : Expr} {es ifs : List Expr} {w wa wb we : WE} {wc wc' tt : WT} {t : WA} {pos p apos : Pos} {f : F} {EW : D → Prop} {k : Nat} {fa : Addr} {x m : Str} {st : Stmt} {rest sa sb body : List Stmt} {u v : WS}
/-! ### making an instance -/
theorem ext_sub {T : Hp → Prop} {rg : Addr} {H H' : Hp} (hT : TOk T) (h : ∀ b o, H b = some o → H' b = some o) : Ext T rg H H' := ⟨fun b o _ _ e => h b o e, fun o e => ⟨o, h _ _ e, fun z => z, fun z => z⟩, hT H H' fun b o e => .inl (h b o e), fun b o n e => ⟨o, h b o e, n⟩⟩
theorem d_mk {cn : Str} (hT : TOk g.T) (Mk_ : Mk X.K (He.ga X.K cn) fa) (Fi : FnR X.prog X.w X.K X.mg X.base (L2.CX X.prog X.w) k fa (spI g.T X.K cn f)) (hr : Room (k + 1) X.A) (hm : X.mg x = some (.ref (He.ga X.K cn))) (hx : PassD X g EW) (ha : PA X (e :: es) (liftA g X.K t)) (hg : Gl X x := by rfl)
    (hdb : (x == ("__debug__" : Str)) = false := by decide) (he : starEach (e :: es) X.env = (false, eval e X.env) :: starEach es X.env := by rfl) (hpl : (backTo pos (starEach es X.env)).any (·.1) = false := by rfl) :
    PE X (.Call (.Name x p) (e :: es) [] pos) (liftE g X.K (wCall f EW t)) := by
  refine pe_imp (StX.pe_makeR Mk_ Fi hr hg hm hx ha hdb he hpl) ?_
  rintro σ H Q ⟨M, ρ, P0, s, h, q⟩
  refine ⟨M, ρ, _, s, h, fun ds h1 H1 vs e1 r1 => ?_⟩
  intro y dx hy hdx hne
  have s1 := s.mono e1
  have sub : ∀ b o, H1 b = some o → upd (upd H1 dx (.own y)) y (.ins (He.ga X.K cn) dx []) b = some o := fun b o e => by
    rw [upd_ne (ne_of_none e hy), upd_ne (ne_of_none e hdx)]
    exact e
  have sub2 : ∀ b o, H1 b = some o → rem y (upd (upd H1 dx (.own y)) y (.ins (He.ga X.K cn) dx [])) b = some o := fun b o e => by
    rw [rem_ne (ne_of_none e hy)]
    exact sub b o e
  have e2 := ext_sub (rg := g.rg) hT sub
  have e3 := ext_sub (rg := g.rg) hT sub2
  refine ⟨g.rg, M, ds, vs, y, dx, P0, EW, rfl, upd_same, s1.live.new hy, s1.rgM, s1.live.mono e2, e2.tab s1.t, ?_, h1, fun d hd H' ex r => ⟨rfl, q d hd H' _ ((e1.trans e3).trans ex) r⟩, fun z hz H' cls dd ex rx => ⟨z, RepX.anti s.sub rx, (s1.ext.trans e3).trans ex, hz⟩⟩
  exact Reps.monoE e2 (List.mem_cons_of_mem _ s1.rgM) (Reps.fresh hy r1)
/-! ### the fields of an instance under construction -/
theorem putF_new {f : Str} {v : V} : ∀ {fs : List (Str × V)}, fs.lookup f = none → putF f v fs = fs ++ [(f, v)]
  | [], _ => rfl
  | (y, z) :: r, h => by
    by_cases e : f = y
    · subst e; simp at h
    · have e' : (f == y) = false := by simpa using e
      simp only [List.lookup, e'] at h
      show (if y = f then _ else _) = _
      rw [if_neg (fun z => e z.symm), putF_new h]
      rfl
theorem RepF.snoc {K : PySem.W.Frag} {rg : Addr} {M : List Addr} {H : Hp} {x : Str} {d : D} {v : V} : ∀ {fs : List (Str × D)} {vs : List (Str × V)}, RepF K rg M H fs vs → Rep K rg M H d v → RepF K rg M H (fs ++ [(x, d)]) (vs ++ [(x, v)])
  | _, _, .nil, r => .cons r .nil
  | _, _, .cons a b, r => .cons a (RepF.snoc b r)
/-- slot i's instance gets a field -/
theorem St.field {M : List Addr} {σ : L2.St} {H : Hp} {ρ : List S} {i : Nat} {cn fl : Str} {q dx : Addr} {fs : List (Str × D)} {vs : List (Str × V)} {d : D} {y : V} (s : St g X.K M σ H ρ) (hT : TOk g.T) (hi : ρ[i]? = some (.new cn q fs)) (hq : H q = some (.ins (He.ga X.K cn) dx vs))
    (hr : RepF X.K g.rg M H fs vs) (hd : Rep X.K g.rg M H d y) : St g X.K M σ (upd H q (.ins (He.ga X.K cn) dx (vs ++ [(fl, y)]))) (ρ.set i (.new cn q (fs ++ [(fl, d)]))) := by
  obtain ⟨o, eo, rs⟩ := s.sl.get hi
  have inv : o = some (.ref q) ∧ q ∈ M ∧ q ≠ g.rg ∧ Fr0 g.H0 q := by
    cases rs with
    | new a1 a2 a3 a4 a5 => exact ⟨rfl, a1, a2, a3⟩
  obtain ⟨rfl, qM, qr, q0⟩ := inv
  have em : ExtM g.rg M H (upd H q (.ins (He.ga X.K cn) dx (vs ++ [(fl, y)]))) := ⟨fun b o hb _ e => by rw [upd_ne (fun z => hb (by rw [z]; exact qM))]; exact e, fun o e => ⟨o, by rw [upd_ne (Ne.symm qr)]; exact e, fun z => z⟩⟩
  have ht : g.T (upd H q (.ins (He.ga X.K cn) dx (vs ++ [(fl, y)]))) := hT H _ (fun b o e => by
    by_cases z : b = q
    · rw [z, hq] at e
      cases e
      exact .inr ⟨fun ps z => (nomatch z), fun φ z => (nomatch z)⟩
    · exact .inl (by rw [upd_ne z]; exact e)) s.t
  have ext : Ext g.T g.rg g.H0 (upd H q (.ins (He.ga X.K cn) dx (vs ++ [(fl, y)]))) := by
    refine ⟨fun b o nb nt e => ?_, fun o e => ?_, fun _ => ht, fun b o nt e => ?_⟩
    · rw [upd_ne (q0.ne nt e)]
      exact s.ext.keep b o nb nt e
    · rw [upd_ne (Ne.symm qr)]
      exact s.ext.rng o e
    · by_cases z : b = q
      · exact ⟨.ins (He.ga X.K cn) dx (vs ++ [(fl, y)]), by rw [z]; exact upd_same, fun ps z => (nomatch z)⟩
      · rw [upd_ne z]
        exact s.ext.there b o nt e
  have live : Live (upd H q (.ins (He.ga X.K cn) dx (vs ++ [(fl, y)]))) M := fun b hb => by
    by_cases z : b = q
    · exact ⟨.ins (He.ga X.K cn) dx (vs ++ [(fl, y)]), by rw [z]; exact upd_same, fun ps z => (nomatch z)⟩
    · rw [upd_ne z]
      exact s.live b hb
  have hσ : σ.set i (some (.ref q)) = σ := by
    apply List.ext_getElem?
    intro j
    rw [List.getElem?_set]
    by_cases hj : i = j
    · subst hj
      rw [if_pos rfl, eo]
      have := (List.getElem?_eq_some_iff.mp eo).1
      simp [this]
    · rw [if_neg hj]
  have s1 : Slots X.K g.rg M g.H0 H σ (ρ.set i .no) := by
    have := s.sl.set i (SlotR.no (o := some (.ref q)))
    rwa [hσ] at this
  have s2 : Slots X.K g.rg M g.H0 (upd H q (.ins (He.ga X.K cn) dx (vs ++ [(fl, y)]))) σ (ρ.set i .no) := s1.other em (fun b hb => upd_ne hb) fun j z hz ho he => by
    have hj : j ≠ i := by
      rintro rfl
      by_cases hl : j < ρ.length
      · rw [List.getElem?_set_self hl] at hz; cases hz; cases ho
      · rw [List.getElem?_eq_none (by simp; omega)] at hz; cases hz
    rw [List.getElem?_set_ne (Ne.symm hj)] at hz
    exact s.ap j i z _ (.ref q) hj hz ho hi rfl he eo
  have s3 : Slots X.K g.rg M g.H0 (upd H q (.ins (He.ga X.K cn) dx (vs ++ [(fl, y)]))) σ (ρ.set i (.new cn q (fs ++ [(fl, d)]))) := by
    have := s2.set i (SlotR.new (c := cn) qM qr q0 upd_same ((RepF.mono em hr).snoc (x := fl) (Rep.mono em hd)))
    rwa [hσ, List.set_set] at this
  refine ⟨s.sub, s.rg, live, ext, ht, s3, ?_, s.own, fun z hz => Rep.mono em (s.gh z hz)⟩
  have back : ∀ {j : Nat} {z : S}, (ρ.set i (.new cn q (fs ++ [(fl, d)])))[j]? = some z → z.isOwn = true → ∃ z', ρ[j]? = some z' ∧ z'.isOwn = true := fun {j z} hz ho => by
    by_cases hj : i = j
    · subst hj; exact ⟨_, hi, rfl⟩
    · rw [List.getElem?_set_ne hj] at hz; exact ⟨z, hz, ho⟩
  intro a b t u w hab h1 h2 h3 h4 h5
  obtain ⟨t', e1, e2⟩ := back h1 h2
  obtain ⟨u', e3, e4⟩ := back h3 h4
  exact s.ap a b t' u' w hab e1 e2 e3 e4 h5
/-- self.f = e, self in slot i -/
def wSetF (cn fl : Str) (i : Nat) (w : WE) : WS := fun E ρ => w ρ fun d => match ρ[i]? with
  | some (.new c q fs) => c = cn ∧ fs.lookup fl = none ∧ fs.length < 1000 ∧ E.nx (ρ.set i (.new c q (fs ++ [(fl, d)])))
  | _ => False
theorem ds_setf {cn : Str} {i : Nat} {p' pos' : Pos} {m : Str} (hT : TOk g.T) (cl : Cls X.K (He.ga X.K cn)) (na : NoAttr X.K (He.ga X.K cn) x) (hv : PE X e (liftE g X.K w)) (hN : X.N[i]? = some m := by rfl) (hvis : Vis X.env.scope m := by first | exact Or.inl rfl | exact Or.inr (Or.inl rfl) | exact Or.inr (Or.inr rfl))
    (hd : (m == ("__debug__" : Str)) = false := by decide) (hcd : (m == ("__classdict__" : Str)) = false := by decide) (hs : swapsWith e (some (.Attribute (.Name m p') x pos')) pos.line X.env = pure false := by rfl) :
    PS X (.Assign [.Attribute (.Name m p') x pos'] e pos) (liftS g X.K (wSetF cn x i w)) := ps_imp (ps_fld (pe_var hN hvis hd hcd) hv hs) fun D σ H h => by
  obtain ⟨M, ρ, E, s, h, l⟩ := h
  refine ⟨M, ρ, _, s, h, fun d hd H1 v e1 r1 => ?_⟩
  split at hd
  · rename_i c q fs hi
    obtain ⟨rfl, hl, hn, hE⟩ := hd
    have s1 := s.mono e1
    obtain ⟨o, eo, rs⟩ := s1.sl.get hi
    cases rs with
    | new a1 a2 a3 a4 a5 =>
      refine ⟨_, eo, _, _, _, _, rfl, a4, cl, na, by rw [← a5.len]; exact hn, l.nx _ hE _ _ M ?_⟩
      rw [putF_new (a5.none hl)]
      exact s1.field hT hi a4 a5 r1
  · exact hd.elim
/-- self.f of such -/
def wNewF (cn fl : Str) (i : Nat) : WE := fun ρ Q => match ρ[i]? with
  | some (.new c _ fs) => c = cn ∧ (match fs.lookup fl with | some d => Q d | none => False)
  | _ => False
theorem d_newf {cn : Str} {i : Nat} {p' : Pos} {m : Str} (cl : Cls X.K (He.ga X.K cn)) (na : NoAttr X.K (He.ga X.K cn) x) (hN : X.N[i]? = some m := by rfl) (hvis : Vis X.env.scope m := by first | exact Or.inl rfl | exact Or.inr (Or.inl rfl) | exact Or.inr (Or.inr rfl))
    (hd : (m == ("__debug__" : Str)) = false := by decide) (hcd : (m == ("__classdict__" : Str)) = false := by decide) (hb : attributeBase (.Name m p') x X.env (eval (.Name m p') X.env) = eval (.Name m p') X.env := by rfl) :
    PE X (.Attribute (.Name m p') x pos) (liftE g X.K (wNewF cn x i)) := pe_imp (pe_fld (pe_var hN hvis hd hcd) hb) fun σ H Q h => by
  obtain ⟨M, ρ, P, s, h, q⟩ := h
  unfold wNewF at h
  split at h
  · rename_i c r fs hi
    obtain ⟨rfl, h⟩ := h
    split at h
    · rename_i d hl
      obtain ⟨o, eo, rs⟩ := s.sl.get hi
      cases rs with
      | new a1 a2 a3 a4 a5 =>
        obtain ⟨y, hy, ry⟩ := a5.lookup hl
        exact ⟨_, eo, _, _, _, _, y, rfl, a4, cl, na, hy, q d h H y (Ext.refl H) ry⟩
    · exact h.elim
  · exact h.elim
/-! ### raise -/
/-- what an own exception's __init__ keeps: the arguments become the fields, told by mk -/
def spE (K : PySem.W.Frag) (cn : Str) (n : Nat) (mk : List V → List (Str × V)) : Sp := fun vs H Q _ => ∃ a ws, vs = .ref a :: ws ∧ ws.length = n ∧ H a = some (exo a (He.ga K cn) none) ∧
  ∀ dx, H dx = none → dx ≠ a → ∀ H', (∀ b, b ≠ a → b ≠ dx → H' b = H b) → H' a = some (exo a (He.ga K cn) (some dx)) → H' dx = some (exd dx (mk ws)) → Q .non H'
structure ExcD (X : Cx) (cn : Str) (n : Nat) (mk : List V → List (Str × V)) : Prop where
  T : OexC X.K (He.ga X.K cn)
  ex : ∃ fI fd ps, PySem.W.findIn X.K (.ref (He.ga X.K cn)) "__init__" = some (some (.ref fI)) ∧ PySem.W.typeIn X.K (.ref fI) = some (.type "function") ∧ FnOk X.prog X.w X.K X.mg X.base CX0 2 fI fd ps (spE X.K cn n mk) ∧ Binds X.K fd ps []
def wRaise (cn : Str) (n : Nat) (mkD : List D → List (Str × D)) (EW : D → Prop) (t : WA) : WS := fun _ ρ => t ρ fun ds => ds.length = n ∧ EW (.obj cn (mkD ds))
theorem ds_raise {cn : Str} {n : Nat} {mk : List V → List (Str × V)} {mkD : List D → List (Str × D)} (hc : X.calm = true) (xd : ExcD X cn n mk) (hmk : ∀ (K : PySem.W.Frag) rg M H ds vs, Reps K rg M H ds vs → RepF K rg M H (mkD ds) (mk vs)) (hn : n ≤ 1000) (hr : Room 3 X.A) (hm : X.mg x = some (.ref (He.ga X.K cn)))
    (tk : Takes X (fun cls dd _ H => liftX g.T g.rg g.M0 g.H0 X.K EW cls dd H)) (hT : TOk g.T) (ha : PA X (e :: es) (liftA g X.K t)) (hg : Gl X x := by rfl)
    (hdb : (x == ("__debug__" : Str)) = false := by decide) (he : starEach (e :: es) X.env = (false, eval e X.env) :: starEach es X.env := by rfl) {pos2 : Pos} (hpl : (backTo pos (starEach es X.env)).any (·.1) = false := by rfl) :
    PS X (.Raise (some (.Call (.Name x p) (e :: es) [] pos)) none pos2) (liftS g X.K (wRaise cn n mkD EW t)) := by
  obtain ⟨T, fI, fd, ps, h1, h2, h3, h4⟩ := xd
  refine ps_imp (ps_raise hc tk (pmk_oex (dvs := []) (ds := []) T h1 h2 h3 hr h4 .nil (fun _ _ _ _ _ _ _ h => h.elim) hg hm ha hdb he hpl)) ?_
  rintro D σ H ⟨M, ρ, E, s, h, l⟩
  refine ⟨M, ρ, _, s, h, fun ds hd H1 vs e1 r1 => ?_⟩
  have hl : vs.length = n := by rw [← r1.length]; exact hd.1
  refine ⟨by rw [hl]; exact hn, fun z hz => ?_⟩
  refine ⟨z, vs, by rw [List.append_nil], hl, upd_same, fun dx hdx hne H' k1 k2 k3 => ⟨rfl, dx, mk vs, k2, k3, ?_, ?_⟩⟩
  · rw [upd_ne hne] at hdx
    exact hdx
  · have hdx1 : H1 dx = none := by rw [upd_ne hne] at hdx; exact hdx
    have sub : ∀ b o, H1 b = some o → upd (del H' z) dx (.xd (mk vs)) b = some o := fun b o e => by
      have nz := ne_of_none e hz
      have nd := ne_of_none e hdx1
      rw [upd_ne nd, del_ne nz, k1 b nz nd, upd_ne nz]
      exact e
    have e2 := ext_sub (rg := g.rg) hT sub
    exact ⟨_, ⟨cn, mkD ds, dx, mk vs, rfl, rfl, rfl, upd_same, RepF.anti s.sub (RepF.mono (e2.m s.rgM) (hmk _ _ _ _ _ _ r1))⟩, (s.ext.trans e1).trans e2, hd.2⟩
end
end DL
namespace DL
open PySem PySem.Spec PyProof.Rows L2
/-! ### own operators -/
/-- the class c's def for the name nm stands at fa -/
structure OwnAt (K : PySem.W.Frag) (c nm : Str) (fa : Addr) : Prop where
  hs : PySem.W.findIn K (.ref (He.ga K c)) nm = some (some (.ref fa))
  hf : PySem.W.isFn K (.ref fa) = true
section
variable {M : Model} {prog : Program} {w : World} {A : Around} {E : Value → Shared → Prop} {s : Shared} {K : PySem.W.Frag} {x C f : Addr} {ox : Obj} {od : Option Obj}
theorem ne_entry {b : Value} {Q : Fin → Shared → Prop} (X : K.In s.heap) (I : PySem.W.InstAt s.heap x ox C od) (hs : PySem.W.findIn K (.ref C) "__eq__" = some (some (.ref f))) (hf : PySem.W.isFn K (.ref f) = true) (hu : A.units < cLine)
    (h : wpAny (model prog w) A (call (.ref f) [.ref x, b]) (fun v s' => ∃ r, v = .bool r ∧ Q (.done (.ret (.bool (!r)))) s') E s) : wpAny (model prog w) A (Builtin.«object.__ne__» ⟨[.ref x, b], []⟩) Q E s := by
  have step : wpAny (model prog w) A (callSpecialIfBound? (.ref x) (Str.ofString "__eq__") [b]) (fun o s' => ∃ r, o = some (.bool r) ∧ Q (.done (.ret (.bool (!r)))) s') E s :=
    PySem.W.ifBound_K X I hs hf (wpAny_mono h (fun v s' z => let ⟨r, e, q⟩ := z; ⟨r, by rw [e], q⟩) fun _ _ z => z)
  unfold Builtin.«object.__ne__»
  refine wpAny_bind (m := slotArgs "__ne__" 1 _) (wpAny_pure ?_)
  repeat (first
    | with_reducible refine wpAny_cRoomFor hu ?_
    | (refine wpAny_bind (m := callSpecialIfBound? (.ref x) (Str.ofString "__eq__") [b]) (wpAny_mono step (fun o s' z => ?_) fun _ _ e => e); obtain ⟨r, rfl, q⟩ := z)
    | exact q
    | exact wpAny_pure q
    | exact wpAny_truthy_bool q
    | (refine wpAny_bind (m := truthy (.bool _)) (wpAny_truthy_bool ?_))
    | wp_step)
theorem ne_bound {args : List Value} {Q : Option Value → Shared → Prop} (X : K.In s.heap) (I : PySem.W.InstAt s.heap x ox C od) (hs : PySem.W.findIn K (.ref C) "__ne__" = some (some (.builtin "object.__ne__")))
    (h : wpAny M A (call (.builtin "object.__ne__") (.ref x :: args)) (fun v => Q (some v)) E s) : wpAny M A (callSpecialIfBound? (.ref x) "__ne__" args) Q E s := by
  have last : wpAny M A (call (.builtin "object.__ne__") ([.ref x] ++ args) >>= fun r => pure (some r)) Q E s := wpAny_bind (wpAny_mono h (fun _ _ z => wpAny_pure z) fun _ _ z => z)
  simp only [callSpecialIfBound?, bindSpecialIfBound?]
  refine wpAny_holding (wpAny_bind (wpAny_bind (wpAny_bind (I.type.here ((PySem.W.looks_findIn X hs).here (wpAny_bind (wpAny_askSetting (wpAny_ite ?_))))))))
  split <;> first
    | exact wpAny_bind (wpAny_of_eq (F.cmp_object.ne.bind _) (wpAny_pure (by exact last)))
    | exact wpAny_tryCatch (wpAny_bind (wpAny_of_eq (F.cmp_object.ne.bind _) (wpAny_pure (by exact last))))
theorem ne_own {b : Value} {Q : Value → Shared → Prop} (X : K.In s.heap) (I : PySem.W.InstAt s.heap x ox C od) (hb : PySem.W.Looks (model prog w) s.heap (typeOf b) (.ref C)) (hu : A.units + 1 < cLine) (hn : PySem.W.findIn K (.ref C) "__ne__" = some (some (.builtin "object.__ne__")))
    (hm : PySem.W.mroIn K C (.type "object") = some true) (hs : PySem.W.findIn K (.ref C) "__eq__" = some (some (.ref f))) (hf : PySem.W.isFn K (.ref f) = true)
    (h : wpAny (model prog w) A.in1 (call (.ref f) [.ref x, b]) (fun v s' => ∃ r, v = .bool r ∧ Q (.bool (!r)) s') E s) : wpAny (model prog w) A (compareOp .NotEq (.ref x) b) Q E s := by
  have one : wpAny (model prog w) A (tryCompare (.ref x) "__ne__" b) (fun o s' => ∃ v, o = some v ∧ Q v s') E s := by
    unfold tryCompare
    refine wpAny_bind (ne_bound X I hn (wpAny_call (codeAny_call_builtin F.cmp_object.ne.plain F.cmpEntry_ne (PySem.W.check_slot F.cmpKind_ne F.cmpSplit_ne (I.type.andThen (PySem.W.looks_mroIn X hm)) (F.cmpArgs_ne _ _)
      (ne_entry (A := A.in1) X I hs hf hu (wpAny_mono h (fun v s' z => ?_) fun _ _ e => e))))))
    obtain ⟨r, rfl, q⟩ := z
    first | exact ⟨r, rfl, wpAny_pure ⟨_, rfl, q⟩⟩ | exact ⟨r, rfl, wpAny_pure (wpAny_pure ⟨_, rfl, q⟩)⟩
  unfold compareOp richCompare
  simp only [oneThing_ref, cmpInfo_NotEq]
  refine wpAny_holding (wpAny_bind (wpAny_cRoomFor (Nat.lt_of_succ_lt hu) (wpAny_bind (I.type.here (wpAny_bind (hb.here ?_))))))
  rw [show (Value.ref C != Value.ref C) = false from by simp]
  simp only [Bool.false_eq_true, if_false]
  refine wpAny_bind (wpAny_pure ?_)
  simp only [Bool.false_eq_true, if_false]
  refine wpAny_bind (wpAny_mono one (fun o s' z => ?_) fun _ _ e => e)
  obtain ⟨v, rfl, q⟩ := z
  first | exact wpAny_pure q | exact wpAny_pure (wpAny_pure q)
end
section
variable {X : Cx} {g : G} {e o c a b : Expr} {w wa wb : WE} {pos : Pos} {f : F} {EW : D → Prop} {k : Nat} {fa : Addr} {cn : Str}
/-- x op y by the def at fa, x of the class C, y of the kind B -/
def rSp (C : Addr) (B : V → Hp → Prop) (sp : Sp) (E : XK) : R2 := fun x y H Q => ∃ p dx vs, x = .ref p ∧ H p = some (.ins C dx vs) ∧ B y H ∧ sp [x, y] H Q E
def isInt : V → Hp → Prop := fun y _ => ∃ i, y = .int i
def isInst (C : Addr) : V → Hp → Prop := fun y H => ∃ p dx vs, y = .ref p ∧ H p = some (.ins C dx vs)
theorem inst_at {pins : List (Addr × Obj)} {σ : L2.St} {H : Hp} {s : Shared} {p C dx : Addr} {vs : List (Str × V)} (I : Inv X pins σ H s) (h : H p = some (.ins C dx vs)) : ∃ ox od, PySem.W.InstAt s.heap p ox C (some od) := by
  obtain ⟨mA, O, _⟩ := ins_get I.hok h
  obtain ⟨od, J, _⟩ := O.look
  exact ⟨_, od, J⟩
theorem run_sp {sp : Sp} {E : XK} {pins : List (Addr × Obj)} {σ : L2.St} {H : Hp} {s : Shared} {vs : List V} {us : List Value} {Q : VK} (F : FnR X.prog X.w X.K X.mg X.base (L2.CX X.prog X.w) k fa sp) (hr : Room k X.A) (hx : Passes (L2.CX X.prog X.w) X E) (I : Inv X pins σ H s) (r : Vals vs us) (h : sp vs H Q E) :
    wpAny (model X.prog X.w) X.A (call (.ref fa) us) (PySem.W.CmpBack (EP X pins σ Q)) X.xe s :=
  wpAny_mono (wpAny_call (run_fnR F hr hx I r h)) (fun w s' z => let ⟨z', H', I', rz, qz⟩ := z; SlX.cmpback rz ⟨z', H', I', rz, qz⟩) fun _ _ x => x
theorem op_sp2 {op : Operator} {sp : Sp} {E : XK} (F : FnR X.prog X.w X.K X.mg X.base (L2.CX X.prog X.w) k fa sp) (hr : Room k X.A) (hx : Passes (L2.CX X.prog X.w) X E) (hc : PySem.W.selfFirst X.K (He.ga X.K cn) = true) (ho : OwnAt X.K cn (PySem.dunder op.info.2) fa) :
    OpR X (binaryOp op) (rSp (He.ga X.K cn) (isInst (He.ga X.K cn)) sp E) := by
  rintro pins s σ H x y v u Q I rx ry ⟨p, dx, vs, rfl, hp, ⟨p', dx', vs', rfl, hp'⟩, h⟩
  cases (show v = Value.ref p from rx)
  cases (show u = Value.ref p' from ry)
  obtain ⟨ox, od, J⟩ := inst_at I hp
  obtain ⟨ox', od', J'⟩ := inst_at I hp'
  obtain ⟨m, hF⟩ := I.fr
  exact PySem.W.binop_K hF I.ok.mod.kin J J'.type hc ho.hs ho.hf (run_sp F hr hx I (.cons rx (.cons ry .nil)) h)
/-- what an int at the right asks -/
structure OwnI (K : PySem.W.Frag) (c nm rnm : Str) : Prop where
  hr : PySem.W.findIn K (.ref (He.ga K c)) rnm = some none
  h1 : ∃ fo, PySem.W.findIn K (.type "int") nm = some fo
  h2 : ∃ ro, PySem.W.findIn K (.type "int") rnm = some ro
  hu : PySem.W.subIn K (.type "int") (.ref (He.ga K c)) = some false
theorem op_spI {op : Operator} {sp : Sp} {E : XK} (F : FnR X.prog X.w X.K X.mg X.base (L2.CX X.prog X.w) k fa sp) (hr : Room k X.A) (hx : Passes (L2.CX X.prog X.w) X E) (hc : PySem.W.selfFirst X.K (He.ga X.K cn) = true) (ho : OwnAt X.K cn (PySem.dunder op.info.2) fa)
    (hi : OwnI X.K cn (PySem.dunder op.info.2) (PySem.dunderR op.info.2)) : OpR X (binaryOp op) (rSp (He.ga X.K cn) isInt sp E) := by
  rintro pins s σ H x y v u Q I rx ry ⟨p, dx, vs, rfl, hp, ⟨i, rfl⟩, h⟩
  cases (show v = Value.ref p from rx)
  obtain ⟨t, e⟩ := (show ∃ t, u = Value.int i t from ry)
  subst e
  obtain ⟨ox, od, J⟩ := inst_at I hp
  obtain ⟨m, hF⟩ := I.fr
  obtain ⟨hr', ⟨fo, h1⟩, ⟨ro, h2⟩, hu⟩ := hi
  exact PySem.W.ksp_binT (T := "int") hF I.ok.mod.kin J rfl hc ho.hs ho.hf hr' (.inl rfl) h1 h2 hu (run_sp F hr hx I (.cons rx (.cons (show L2.RelV (V.int i) (Value.int i t) from ⟨t, rfl⟩) .nil)) h)
theorem op_spEq {sp : Sp} {E : XK} (F : FnR X.prog X.w X.K X.mg X.base (L2.CX X.prog X.w) k fa sp) (hr : Room k X.A) (hx : Passes (L2.CX X.prog X.w) X E) (ho : OwnAt X.K cn "__eq__" fa) : OpR X (compareOp .Eq) (rSp (He.ga X.K cn) (isInst (He.ga X.K cn)) sp E) := by
  rintro pins s σ H x y v u Q I rx ry ⟨p, dx, vs, rfl, hp, ⟨p', dx', vs', rfl, hp'⟩, h⟩
  cases (show v = Value.ref p from rx)
  cases (show u = Value.ref p' from ry)
  obtain ⟨ox, od, J⟩ := inst_at I hp
  obtain ⟨ox', od', J'⟩ := inst_at I hp'
  obtain ⟨m, hF⟩ := I.fr
  show wpAny _ _ (richCompare .Eq _ _) _ _ _
  exact PySem.W.cmp_K (op := .Eq) (tb := .ref (He.ga X.K cn)) hr.units0 hF I.ok.mod.kin J J'.type (by unfold PySem.W.notFirst; simp) ho.hs ho.hf (run_sp F hr hx I (.cons rx (.cons ry .nil)) h)
/-- the def's answer is true or false, and turned round -/
def spNot (sp : Sp) : Sp := fun vs H Q E => sp vs H (fun v H' => ∃ r, v = .bl r ∧ Q (.bl (!r)) H') E
theorem op_spNe {sp : Sp} {E : XK} (F : FnR X.prog X.w X.K X.mg X.base (L2.CX X.prog X.w) k fa sp) (hr : Room (k + 1) X.A) (hx : Passes (L2.CX X.prog X.w) X E) (ho : OwnAt X.K cn "__eq__" fa)
    (hn : PySem.W.findIn X.K (.ref (He.ga X.K cn)) "__ne__" = some (some (.builtin "object.__ne__"))) (hm : PySem.W.mroIn X.K (He.ga X.K cn) (.type "object") = some true) : OpR X (compareOp .NotEq) (rSp (He.ga X.K cn) (isInst (He.ga X.K cn)) (spNot sp) E) := by
  rintro pins s σ H x y v u Q I rx ry ⟨p, dx, vs, rfl, hp, ⟨p', dx', vs', rfl, hp'⟩, h⟩
  cases (show v = Value.ref p from rx)
  cases (show u = Value.ref p' from ry)
  obtain ⟨ox, od, J⟩ := inst_at I hp
  obtain ⟨ox', od', J'⟩ := inst_at I hp'
  refine ne_own I.kIn J J'.type (by have := hr.units0; have := (Room.in1 hr).units0; exact this) hn hm ho.hs ho.hf (wpAny_mono (wpAny_call (SlX.run_at F (Room.in1 hr) I.env0.in1 hx I (.cons rx (.cons ry .nil)) h)) (fun w s' z => ?_) fun _ _ x => x)
  obtain ⟨z', H', I', rz, r, e, q⟩ := z
  subst e
  exact ⟨r, rz, V.bl (!r), H', I', (show L2.RelV (V.bl (!r)) (Value.bool (!r)) from rfl), q⟩
theorem un_sp {sp : Sp} {E : XK} (F : FnR X.prog X.w X.K X.mg X.base (L2.CX X.prog X.w) k fa sp) (hr : Room k X.A) (hx : Passes (L2.CX X.prog X.w) X E) (ho : OwnAt X.K cn "__neg__" fa) :
    UnR X (unaryOp .USub) (fun x H Q => ∃ p dx vs, x = .ref p ∧ H p = some (.ins (He.ga X.K cn) dx vs) ∧ sp [x] H Q E) := by
  rintro pins s σ H x v Q I rx ⟨p, dx, vs, rfl, hp, h⟩
  cases (show v = Value.ref p from rx)
  obtain ⟨ox, od, J⟩ := inst_at I hp
  obtain ⟨m, hF⟩ := I.fr
  exact PySem.W.ksp_neg hF I.ok.mod.kin J ho.hs ho.hf (wpAny_call (run_fnR F hr hx I (.cons rx .nil) h))
/-! told over D -/
def isC (cn : Str) : D → Prop
  | .obj c _ => c = cn
  | _ => False
def isI : D → Prop
  | .int _ => True
  | _ => False
theorem rep_isC {K : PySem.W.Frag} {rg : Addr} {M : List Addr} {H : Hp} {d : D} {v : V} (r : Rep K rg M H d v) (h : isC cn d) : isInst (He.ga K cn) v H := by
  cases r <;> first | exact h.elim | (rename_i n e q; cases h; exact ⟨_, _, _, rfl, e⟩)
theorem rep_isI {K : PySem.W.Frag} {rg : Addr} {M : List Addr} {H : Hp} {d : D} {v : V} (r : Rep K rg M H d v) (h : isI d) : isInt v H := by
  cases r <;> first | exact h.elim | exact ⟨_, rfl⟩
/-- a op b, by the def f -/
def wOwn2 (cn : Str) (B : D → Prop) (f : F) (EW : D → Prop) (wa wb : WE) : WE := fun ρ Q => wa ρ fun x => wb ρ fun y => isC cn x ∧ B y ∧ f [x, y] Q EW
theorem own_t {B : D → Prop} {BV : V → Hp → Prop} (hB : ∀ M H d v, Rep X.K g.rg M H d v → B d → BV v H) {σ : L2.St} {H : Hp} {Q : VK} (h : liftE g X.K (wOwn2 cn B f EW wa wb) σ H Q) :
    tOp (rSp (He.ga X.K cn) BV (spD g.T X.K f) (liftX g.T g.rg g.M0 g.H0 X.K EW)) (liftE g X.K wa) (liftE g X.K wb) σ H Q := by
  obtain ⟨M, ρ, P, s, h, q⟩ := h
  refine ⟨M, ρ, _, s, h, fun dx h1 H1 x e1 r1 => ?_⟩
  refine ⟨M, ρ, _, s.mono e1, h1, fun dy h2 H2 y e2 r2 => ?_⟩
  have r1' := r1.monoE e2 s.rgM
  obtain ⟨p, z, vs, e, hp⟩ := rep_isC r1' h2.1
  exact ⟨p, z, vs, e, hp, hB _ _ _ _ r2 h2.2.1, sp_of ((s.mono e1).mono e2) (.cons r1' (.cons r2 .nil)) h2.2.2 fun d hd H3 v e3 r3 => q d hd H3 v ((e1.trans e2).trans e3) r3⟩
theorem d_own2 {op : Operator} (hc : PySem.W.selfFirst X.K (He.ga X.K cn) = true) (ho : OwnAt X.K cn (PySem.dunder op.info.2) fa) (F : FnD X g.T k fa f) (hr : Room k X.A) (hx : PassD X g EW) (ha : PE X a (liftE g X.K wa)) (hb : PE X b (liftE g X.K wb)) :
    PE X (.BinOp a op b pos) (liftE g X.K (wOwn2 cn (isC cn) f EW wa wb)) := pe_imp (pe_op (op_sp2 F hr hx hc ho) ha hb) fun _ _ _ => own_t fun _ _ _ _ r h => rep_isC r h
theorem d_ownI {op : Operator} (hc : PySem.W.selfFirst X.K (He.ga X.K cn) = true) (ho : OwnAt X.K cn (PySem.dunder op.info.2) fa) (hi : OwnI X.K cn (PySem.dunder op.info.2) (PySem.dunderR op.info.2)) (F : FnD X g.T k fa f) (hr : Room k X.A) (hx : PassD X g EW) (ha : PE X a (liftE g X.K wa)) (hb : PE X b (liftE g X.K wb)) :
    PE X (.BinOp a op b pos) (liftE g X.K (wOwn2 cn isI f EW wa wb)) := pe_imp (pe_op (op_spI F hr hx hc ho hi) ha hb) fun _ _ _ => own_t fun _ _ _ _ r h => rep_isI r h
theorem d_ownEq (ho : OwnAt X.K cn "__eq__" fa) (F : FnD X g.T k fa f) (hr : Room k X.A) (hx : PassD X g EW) (ha : PE X a (liftE g X.K wa)) (hb : PE X b (liftE g X.K wb)) :
    PE X (.Compare a [.Eq] [b] pos) (liftE g X.K (wOwn2 cn (isC cn) f EW wa wb)) := pe_imp (pe_cmpR (op_spEq F hr hx ho) ha hb (nomark _)) fun _ _ _ => own_t fun _ _ _ _ r h => rep_isC r h
def fNotF (f : F) : F := fun ds Q E => f ds (fun d => match d with | .bl r => Q (.bl (!r)) | _ => False) E
theorem d_ownNe (ho : OwnAt X.K cn "__eq__" fa) (hn : PySem.W.findIn X.K (.ref (He.ga X.K cn)) "__ne__" = some (some (.builtin "object.__ne__"))) (hm : PySem.W.mroIn X.K (He.ga X.K cn) (.type "object") = some true) (F : FnD X g.T k fa f) (hr : Room (k + 1) X.A) (hx : PassD X g EW) (ha : PE X a (liftE g X.K wa)) (hb : PE X b (liftE g X.K wb)) :
    PE X (.Compare a [.NotEq] [b] pos) (liftE g X.K (wOwn2 cn (isC cn) (fNotF f) EW wa wb)) := pe_imp (pe_cmpR (op_spNe F hr hx ho hn hm) ha hb (nomark _)) fun σ H Q h => by
  obtain ⟨M, ρ, P, s, h, q⟩ := h
  refine ⟨M, ρ, _, s, h, fun dx h1 H1 x e1 r1 => ?_⟩
  refine ⟨M, ρ, _, s.mono e1, h1, fun dy h2 H2 y e2 r2 => ?_⟩
  have r1' := r1.monoE e2 s.rgM
  obtain ⟨p, z, vs, e, hp⟩ := rep_isC r1' h2.1
  refine ⟨p, z, vs, e, hp, rep_isC r2 h2.2.1, sp_of ((s.mono e1).mono e2) (.cons r1' (.cons r2 .nil)) h2.2.2 fun d hd H3 v e3 r3 => ?_⟩
  split at hd
  · exact ⟨_, r3.bl_v, q _ hd H3 _ ((e1.trans e2).trans e3) (.bl _)⟩
  · exact hd.elim
def wOwnU (cn : Str) (f : F) (EW : D → Prop) (wa : WE) : WE := fun ρ Q => wa ρ fun x => isC cn x ∧ f [x] Q EW
theorem d_ownNeg (ho : OwnAt X.K cn "__neg__" fa) (F : FnD X g.T k fa f) (hr : Room k X.A) (hx : PassD X g EW) (ha : PE X a (liftE g X.K wa)) : PE X (.UnaryOp .USub a pos) (liftE g X.K (wOwnU cn f EW wa)) :=
  pe_imp (pe_un (un_sp F hr hx ho) ha) fun σ H Q h => by
    obtain ⟨M, ρ, P, s, h, q⟩ := h
    refine ⟨M, ρ, _, s, h, fun dx h1 H1 x e1 r1 => ?_⟩
    obtain ⟨p, z, vs, e, hp⟩ := rep_isC r1 h1.1
    exact ⟨p, z, vs, e, hp, sp_of (s.mono e1) (.cons r1 .nil) h1.2 fun d hd H3 v e3 r3 => q d hd H3 v (e1.trans e3) r3⟩
end
end DL
namespace DL
open PySem PySem.Spec PyProof.Rows L2
/-! ### defs whose promise holds where no repr is under way -/
def FnG (P : Program) (w : World) (K : PySem.W.Frag) (mg : Str → Option Value) (base : Heap) (CX : CXT) (k : Nat) (f : Addr) (sp : Sp) : Prop :=
  ∀ (A : Around) (outer : List Env) (s : Shared) (H : Hp) (us : List Value) (vs : List V) (Q : VK) (E : XK), A.guards = some [] → Room k A → Env0 P w K mg base A outer s H → Vals vs us → sp vs H Q E → codeAny (model P w) A (.call (.ref f) ⟨us, []⟩) (CR CX outer P w H s Q E) s
theorem FnG.of {P : Program} {w : World} {K : PySem.W.Frag} {mg : Str → Option Value} {base : Heap} {CX : CXT} {k : Nat} {f : Addr} {sp : Sp} (F : FnR P w K mg base CX k f sp) : FnG P w K mg base CX k f sp := fun A outer s H us vs Q E _ => F A outer s H us vs Q E
theorem FnG.imp {P : Program} {w : World} {K : PySem.W.Frag} {mg : Str → Option Value} {base : Heap} {CX : CXT} {k : Nat} {f : Addr} {sp sp' : Sp} (F : FnG P w K mg base CX k f sp) (h : ∀ vs H Q E, sp' vs H Q E → sp vs H Q E) : FnG P w K mg base CX k f sp' :=
  fun A outer s H us vs Q E g hr e0 r hs => F A outer s H us vs Q E g hr e0 r (h _ _ _ _ hs)
abbrev FnDG (X : Cx) (T : Hp → Prop) (k : Nat) (fa : Addr) (f : F) : Prop := FnG X.prog X.w X.K X.mg X.base (L2.CX X.prog X.w) k fa (spD T X.K f)
section
variable {X : Cx} {g : G} {e o c a b : Expr} {es rest : List Expr} {w wa wb : WE} {t : WA} {pos p apos : Pos} {f : F} {EW : D → Prop} {k : Nat} {fa : Addr} {x m : Str}
theorem run_fnG {CX : CXT} {pins : List (Addr × Obj)} {σ : L2.St} {H : Hp} {s : Shared} {sp : Sp} {E : XK} {Q : VK} {us : List Value} {vs : List V} (F : FnG X.prog X.w X.K X.mg X.base CX k fa sp) (hgd : X.A.guards = some []) (hr : Room k X.A) (hx : Passes CX X E) (I : Inv X pins σ H s) (r : Vals vs us) (h : sp vs H Q E) :
    wpAny (model X.prog X.w) X.A (call (.ref fa) us) (EP X pins σ Q) X.xe s := by
  refine wpAny_call (codeAny_mono (F X.A X.stack s H us vs Q E hgd hr I.env0 r h) fun r s' z => ?_)
  match r, z with
  | .error e, z => exact hx pins σ H s e s' I z
  | .ok (.ret u), z => exact I.after z
  | .ok .next, z => exact z.elim
  | .ok .brk, z => exact z.elim
  | .ok .cont, z => exact z.elim
theorem d_fnG (F : FnDG X g.T k fa f) (hgd : X.A.guards = some []) (hr : Room k X.A) (hm : X.mg x = some (.ref fa)) (hk : PySem.W.keepIn X.K (.ref fa) = true) (hx : PassD X g EW) (ha : PA X (e :: es) (liftA g X.K t)) (hg : Gl X x := by rfl)
    (hdb : (x == ("__debug__" : Str)) = false := by decide) (he : starEach (e :: es) X.env = (false, eval e X.env) :: starEach es X.env := by rfl) (hpl : (backTo pos (starEach es X.env)).any (·.1) = false := by rfl) :
    PE X (.Call (.Name x p) (e :: es) [] pos) (liftE g X.K (wCall f EW t)) := by
  refine ⟨fun pins s σ H Q I h => wpAny_Call_Name_kw (ld_glob I hg hm ?_ hdb)⟩
  refine PySem.W.callWith_K (h₀ := X.base) I.ok.mod.kin hk (thn (ha.run pos pins s σ H _ I (call_t h)) fun us s1 z => ?_) he hpl
  obtain ⟨vs, H1, I1, r, q⟩ := z
  exact ⟨I1.kIn, run_fnG F hgd hr hx I1 r q⟩
/-! ### what is never reached -/
theorem d_dead : PE X e (liftE g X.K fun _ _ => False) := ⟨fun _ _ _ _ _ _ h => let ⟨_, _, _, _, z, _⟩ := h; z.elim⟩
theorem dt_dead : PT X e (liftT g X.K fun _ _ => False) := ⟨fun _ _ _ _ _ _ h => let ⟨_, _, _, _, z, _⟩ := h; z.elim⟩
theorem ds_dead {st : Stmt} : PS X st (liftS g X.K fun _ _ => False) := ⟨fun _ _ _ _ _ _ h => let ⟨_, _, _, _, z, _⟩ := h; z.elim⟩
theorem dss_dead {st : List Stmt} : PSs X st (liftS g X.K fun _ _ => False) := ⟨fun _ _ _ _ _ _ h => let ⟨_, _, _, _, z, _⟩ := h; z.elim⟩
/-! ### a call without arguments -/
theorem d_fn0 (F : FnD X g.T k fa f) (hr : Room k X.A) (hm : X.mg x = some (.ref fa)) (hk : PySem.W.keepIn X.K (.ref fa) = true) (hx : PassD X g EW) (hg : Gl X x := by rfl) (hdb : (x == ("__debug__" : Str)) = false := by decide) :
    PE X (.Call (.Name x p) [] [] pos) (liftE g X.K (wCall f EW wNil)) := ⟨fun pins s σ H Q I h => by
  refine wpAny_Call_Name_kw (ld_glob I hg hm (PySem.W.callWith_K0 I.kIn hk ?_) hdb)
  obtain ⟨M, ρ, P, st, h, q⟩ := h
  exact wpAny_call (run_fnR (us := []) (vs := []) F hr hx I .nil (sp_of st .nil h q))⟩
/-! ### built-in types' names -/
theorem d_tyv {v : String} (hm : X.mg x = none) (hv : bootBuiltins x = some (.type v)) (hg : Gl X x := by rfl) (hn : x ≠ "__name__" := by decide) (hdb : (x == ("__debug__" : Str)) = false := by decide) : PE X (.Name x pos) (liftE g X.K (wC (.ty v))) :=
  d_c (v := .ty v) (pe_bltn hg hm hv rfl hn hdb) fun _ _ => .ty v
/-! ### operators of ints -/
def fAdd : F2 := fI0 fun i j => .int (i + j)
def fSub : F2 := fI0 fun i j => .int (i - j)
def fMul : F2 := fI CMulW fun i j => .int (i * j)
/-- // by a divisor below 2 ^ 9000 -/
def CDivF (_ j : Int) : Prop := j ≠ 0 ∧ j.natAbs.log2 < 9000
theorem op_divF {X : Cx} : OpR X (binaryOp .FloorDiv) (rI CDivF fun i j => .int (i.fdiv j)) := opI fun i j _ _ _ _ _ hc q => floordiv_int hc.1 q (.inl (PyProof.noPylong_of_log2 hc.2))
def fDiv : F2 := fI CDivF fun i j => .int (i.fdiv j)
def fMod : F2 := fI (fun _ j => 0 < j) fun i j => .int (i % j)
def fPow : F2 := fI CPow fun i j => .int (i ^ j.toNat)
def fLt : F2 := fI0 fun i j => .bl (decide (i < j))
def fLe : F2 := fI0 fun i j => .bl (decide (i ≤ j))
def fGt : F2 := fI0 fun i j => .bl (decide (j < i))
def fGe : F2 := fI0 fun i j => .bl (decide (j ≤ i))
variable {T : Hp → Prop}
theorem od_add : OpD X T (binaryOp .Add) fAdd := opd_i0 op_add
theorem od_sub : OpD X T (binaryOp .Sub) fSub := opd_i0 op_sub
theorem od_mul : OpD X T (binaryOp .Mult) fMul := opd_i op_mulW
theorem od_div : OpD X T (binaryOp .FloorDiv) fDiv := opd_i op_divF
theorem od_mod : OpD X T (binaryOp .Mod) fMod := opd_i op_mod
theorem od_pow : OpD X T (binaryOp .Pow) fPow := opd_i op_pow
theorem od_lt : OpD X T (compareOp .Lt) fLt := opd_b0 op_lt
theorem od_le : OpD X T (compareOp .LtE) fLe := opd_b0 op_le
theorem od_gt : OpD X T (compareOp .Gt) fGt := opd_b0 op_gt
theorem od_ge : OpD X T (compareOp .GtE) fGe := opd_b0 op_ge
/-- + of ints, lists, tuples -/
def fAddA : F2 := fun x y Q => fAdd x y Q ∨ fCatL x y Q ∨ fCatT x y Q
theorem od_addA (hT : TOk T) : OpD X T (binaryOp .Add) fAddA := OpD.or od_add (OpD.or (opd_catL hT) (opd_catT hT))
def fMulA : F2 := fun x y Q => fMul x y Q ∨ fRep x y Q
theorem od_mulA (hT : TOk T) : OpD X T (binaryOp .Mult) fMulA := OpD.or od_mul (opd_rep hT)
/-- == and != of ints; of data -/
def fEqI : F2 := fI0 fun i j => .bl (decide (i = j))
def fNeI : F2 := fI0 fun i j => .bl (!decide (i = j))
theorem vdec (i j : Int) : (decide ((V.int i : V) = .int j)) = decide (i = j) := by
  by_cases h : i = j
  · subst h; simp
  · rw [decide_eq_false h, decide_eq_false (fun z => h (V.int.inj z))]
theorem shaped_int (i : Int) : SeqAt.shaped (.int i) = true := by first | rfl | simp [SeqAt.shaped]
theorem eqv_int (i j : Int) : PyData.eqv (.int i) (.int j) = decide (i = j) := by first | rfl | simp [PyData.eqv] | (unfold PyData.eqv; rfl)
theorem od_eqI (hu : X.A.units + 64 < cLine) : OpD X T (compareOp .Eq) fEqI := (opd_eqDat hu).imp fun x y Q h => by
  unfold fEqI fI0 at h
  split at h
  · unfold fEqDat
    exact ⟨shaped_int _, shaped_int _, by rw [eqv_int]; exact h⟩
  · exact h.elim
theorem od_neI (hu : X.A.units + 64 < cLine) : OpD X T (compareOp .NotEq) fNeI := (opd_neDat hu).imp fun x y Q h => by
  unfold fNeI fI0 at h
  split at h
  · unfold fNeDat
    exact ⟨shaped_int _, shaped_int _, by rw [eqv_int]; exact h⟩
  · exact h.elim
def fEqA : F2 := fun x y Q => fEqI x y Q ∨ fEqDat x y Q
def fNeA : F2 := fun x y Q => fNeI x y Q ∨ fNeDat x y Q
theorem od_eqA (hu : X.A.units + 64 < cLine) : OpD X T (compareOp .Eq) fEqA := OpD.or (od_eqI hu) (opd_eqDat hu)
theorem od_neA (hu : X.A.units + 64 < cLine) : OpD X T (compareOp .NotEq) fNeA := OpD.or (od_neI hu) (opd_neDat hu)
/-! ### a list, or a tuple, to several names -/
def gSeqD (n : Nat) (t : List D → List S → (List S → Prop) → Prop) : WG := fun d ρ Q => match d with
  | .lst ds => ds.length = n ∧ t ds ρ Q
  | _ => False
theorem dg_lst {ts : List Expr} {kk : Nat} {t : List D → List S → (List S → Prop) → Prop} {n : Nat} (hc : X.calm = true) (h : PGs X ts (liftGs g X.K t)) (hn : (assignEach ts X.env).length = n := by rfl) (hst : (assignEach ts X.env).findIdx? (·.1) = none := by rfl) :
    PG X (.Tuple ts kk pos) (liftG g X.K (gSeqD n t)) := ⟨fun pins s σ H v u Q I r hh => (pg_lst hc h hn hst).run pins s σ H v u Q I r (by
  obtain ⟨M, ρ, d, P, st, rd, hd, q⟩ := hh
  unfold gSeqD at hd
  split at hd
  · cases rd with
    | lst n e rr => exact ⟨_, _, rfl, SqL.of e, by rw [← rr.length]; exact hd.1, M, ρ, _, P, st, rr, hd.2, q⟩
  · exact hd.elim)⟩
theorem ds_par3 {i j l : Nat} {d : Expr} {x y z : Str} {px py pz pt : Pos} {kt k2 : Nat} {pt2 : Pos} (hc : X.calm = true) (hN : X.N.Nodup) (ha : PA X [a, b, d] (liftA g X.K t)) (hw : swappedStores [.Tuple [.Name x px, .Name y py, .Name z pz] kt pt] (.Tuple [a, b, d] k2 pt2) X.env = pure (some [x, y, z])) (hi : X.N[i]? = some x := by rfl) (hj : X.N[j]? = some y := by rfl) (hl : X.N[l]? = some z := by rfl)
    (hij : i ≠ j := by decide) (hil : i ≠ l := by decide) (hjl : j ≠ l := by decide) (hx : X.env.scope.names.lookup x = some .local := by rfl) (hy : X.env.scope.names.lookup y = some .local := by rfl) (hz : X.env.scope.names.lookup z = some .local := by rfl)
    (hs : swapsWithSole [.Tuple [.Name x px, .Name y py, .Name z pz] kt pt] (.Tuple [a, b, d] k2 pt2) pos.line X.env = pure false := by rfl) :
    PS X (.Assign [.Tuple [.Name x px, .Name y py, .Name z pz] kt pt] (.Tuple [a, b, d] k2 pt2) pos) (liftS g X.K (wPar3 i j l t)) := ps_imp (ps_par3 hc hN hi hj hl hij hil hjl hx hy hz ha hw hs) fun D σ H h => by
  obtain ⟨M, ρ, E, s, h, l⟩ := h
  refine ⟨M, ρ, _, s, h, fun ds hd H1 vs e1 r1 => ?_⟩
  split at hd
  · cases r1 with
    | cons r r2 => cases r2 with
      | cons r3 r4 => cases r4 with
        | cons r5 r6 => cases r6; exact ⟨_, _, _, rfl, l.nx _ hd _ _ _ ((((s.mono e1).set i r).set j r3).set _ r5)⟩
  · exact hd.elim
theorem ds_par2' {i j : Nat} {x y : Str} {px py pt : Pos} {kt k2 : Nat} {pt2 : Pos} (hc : X.calm = true) (hN : X.N.Nodup) (ha : PA X [a, b] (liftA g X.K t)) (hw : swappedStores [.Tuple [.Name x px, .Name y py] kt pt] (.Tuple [a, b] k2 pt2) X.env = pure (some [x, y])) (hi : X.N[i]? = some x := by rfl) (hj : X.N[j]? = some y := by rfl) (hij : i ≠ j := by decide)
    (hx : X.env.scope.names.lookup x = some .local := by rfl) (hy : X.env.scope.names.lookup y = some .local := by rfl)
    (hs : swapsWithSole [.Tuple [.Name x px, .Name y py] kt pt] (.Tuple [a, b] k2 pt2) pos.line X.env = pure false := by rfl) :
    PS X (.Assign [.Tuple [.Name x px, .Name y py] kt pt] (.Tuple [a, b] k2 pt2) pos) (liftS g X.K (wPar2 i j t)) := ds_par2 hc hN ha hi hj hij hx hy fun ta h => ps_par hc hN hi hj hij hx hy h hw hs
/-! ### repr of data -/
@[irreducible] def fRepr : FB
  | [d], Q => (match dat d with | some q => q.showable = true ∧ q.hasDict = false ∧ q.depth ≤ 50 ∧ q.shown.length ≤ sizeLine ∧ Q (.str q.shown) | none => False)
  | _, _ => False
theorem cd_repr (hgd : X.A.guards = some []) (hu : X.A.units + 64 < cLine) : CallD X T (.builtin "repr") fRepr := by
  intro pins s σ H xs us Q I r hq
  obtain ⟨rg, M, ds, P, h1, h2, h3, h4, h5, h6⟩ := hq
  unfold fRepr at h5
  split at h5
  · split at h5
    · rename_i q hd
      obtain ⟨hs, hdt, hdp, hsz, hP⟩ := h5
      cases h4 with
      | cons r1 r2 =>
        cases r2
        obtain ⟨u, rfl, ru⟩ := r.one
        obtain ⟨as, rd⟩ := Dp.reads I q _ _ (r1.dp hd) ru
        have fin : ∀ h' tk t', (∀ b o, s.heap.get? b = some o → h'.get? b = some o) → EP X pins σ Q (.str q.shown tk) { s with heap := h', toks := t' } := fun h' tk t' kp =>
          ⟨.str q.shown, H, I.kept kp, ⟨tk, rfl⟩, h6 _ hP H _ (Ext.refl H) (.str _)⟩
        have nd : q.hasDict = true → sysModules ∉ as := fun z => by rw [hdt] at z; cases z
        have tok : ∀ (m : Str) (u : Value), u = .str m s.toks → m = q.shown → EP X pins σ Q u { s with toks := s.toks + 1 } := fun m u e1 e2 => by
          rw [e1, e2]
          exact ⟨.str q.shown, H, I.tok _, ⟨s.toks, rfl⟩, h6 _ hP H _ (Ext.refl H) (.str _)⟩
        cases rd with
        | none => exact PySem.P.repr_of_none (tok _ _ rfl (by rw [PyData.shown_none]))
        | bool b => exact PySem.P.repr_of_bool (tok _ _ rfl (by rw [PyData.shown_bool]))
        | int i t => exact PySem.P.repr_of_int (by simpa [PyData.showable] using hs) (tok _ _ rfl (by rw [PyData.shown_int]))
        | str x t => exact PySem.P.repr_of_str (tok _ _ rfl (by rw [PyData.shown_str])) (by rw [PyData.shown_str] at hsz; exact hsz)
        | list e1 e2 e3 e4 => exact repr_of_reads' (.list e1 e2 e3 e4) hs nd hgd (by omega) (fun _ _ z => z) (fun h' tk t' kp => fin h' tk t' kp) hsz
        | tuple e1 e2 e3 e4 => exact repr_of_reads' (.tuple e1 e2 e3 e4) hs nd hgd (by omega) (fun _ _ z => z) (fun h' tk t' kp => fin h' tk t' kp) hsz
        | _ => simp [PyData.hasDict] at hdt
    · exact h5.elim
  · exact h5.elim
end
end DL
namespace DL
open PySem PySem.Spec PyProof.Rows L2
section
variable {P : Program} {w : World} {K : PySem.W.Frag} {mg : Str → Option Value} {base : Heap} {x qual : Str} {params : Arguments} {body : List Stmt} {scope : Scope} {fa : Addr} {fd : FuncData} {N ps : List Str} {k : Nat} {T : Hp → Prop} {f : F}
/-- what a body's derivation gives of the promise -/
def BodyD (P : Program) (w : World) (K : PySem.W.Frag) (mg : Str → Option Value) (base : Heap) (N : List Str) (qual : Str) (scope : Scope) (fa : Addr) (body : List Stmt) (k : Nat) (T : Hp → Prop) (gd : Prop) (f : F) : Prop :=
  ∀ (cdv : Value) (A : Around) (outer : List Env) (s : Shared) (H : Hp) (E : XK) (g : G) (EW : D → Prop) (ds : List D) (Q : D → Prop), g.T = T → (gd → A.guards = some []) → BD (cxOf (L2.CX P w) P w K mg base N qual scope fa cdv A outer s H E) g k EW → f ds Q EW →
    ∃ ws, PSs (cxOf (L2.CX P w) P w K mg base N qual scope fa cdv A outer s H E) body (liftS g K ws) ∧ ws { nx := fun _ => Q .non, rt := Q } (startD N ds)
theorem body_run {gd : Prop} (hT : TOk T) (hbody : BodyD P w K mg base N qual scope fa body k T gd f) {cdv : Value} {A : Around} {outer : List Env} {s : Shared} {H : Hp} {vs : List V} {Q : VK} {E : XK} (hgd : gd → A.guards = some [])
    (hr : Room k (A.deeper (envOfC qual scope s.heap.objs.size fa cdv))) (h : spD T K f vs H Q E) :
    ∃ t, PSs (cxOf (L2.CX P w) P w K mg base N qual scope fa cdv A outer s H E) body t ∧ t { nx := fun _ H' => Q .non H', rt := Q } (L2.start N vs) H := by
  obtain ⟨rg, M, ds, P0, R, h1, h2, h3, h4, h5, h6, h7⟩ := h
  have hW : ∀ (cls : Value) (d : Option Addr) (σ : L2.St) (H' : Hp), liftX T rg M H K R cls d H' → E cls d H' := fun cls d σ H' ⟨x, hx, hext, hR⟩ => h7 x hR H' cls d hext hx
  have tk : Takes (cxOf (L2.CX P w) P w K mg base N qual scope fa cdv A outer s H E) (fun cls d _ H' => E cls d H') := takes_of rfl rfl rfl rfl
  obtain ⟨ws, hd, hw⟩ := hbody cdv A outer s H E ⟨T, rg, M, H, []⟩ R ds P0 rfl hgd ⟨hr, passes_call tk hW, Takes.imp tk (fun c d (σ : L2.St) H' z => hW c d σ H' z), hT⟩ h5
  have s0 : Slots K rg M H H (L2.start N vs) (startD N ds) := by
    unfold L2.start startD
    rw [← h4.length]
    exact slots_vals h4 _ _ (slots_no _)
  have ap : Apart (L2.start N vs) (startD N ds) := fun i j s1 t1 v1 _ e1 e2 => by
    rw [noown_start e1] at e2
    cases e2
  exact ⟨_, hd, M, startD N ds, _, ⟨fun _ z => z, h1, h2, Ext.refl H, h3, s0, ap, fun a ha => .inl ha, fun _ z => (nomatch z)⟩, hw, ⟨fun ρ' hq σ' H' M' s' => h6 _ hq H' _ s'.ext .non, h6, fun _ z => z.elim, fun _ z => z.elim⟩⟩
/-- a def of which each parameter is given -/
theorem fnR_of (Fd : FunD K x qual params body scope [] [] fa fd) (S : FnScope N ps scope) (hb : Binds K fd ps []) (len : ∀ ds Q R, f ds Q R → ds.length = ps.length) (hT : TOk T) (hbody : BodyD P w K mg base N qual scope fa body k T False f) : FnR P w K mg base (L2.CX P w) (k + 1) fa (spD T K f) := by
  have F : FnOk P w K mg base (L2.CX P w) (k + 1) fa fd ps (spD T K f) := Fd.ok S (fun vs H Q E h => by
    obtain ⟨rg, M, ds, P0, R, h1, h2, h3, h4, h5, _⟩ := h
    rw [← h4.length, len _ _ _ h5]) fun cdv A outer s H vs Q E hr hsp => body_run hT hbody (fun z => z.elim) hr hsp
  exact (F.raw hb .nil).imp fun vs H Q E h => by rw [List.append_nil]; exact h
theorem fnG_of (Fd : FunD K x qual params body scope [] [] fa fd) (S : FnScope N ps scope) (hb : Binds K fd ps []) (len : ∀ ds Q R, f ds Q R → ds.length = ps.length) (hT : TOk T) (hbody : BodyD P w K mg base N qual scope fa body k T True f) : FnG P w K mg base (L2.CX P w) (k + 1) fa (spD T K f) := by
  obtain ⟨oc, od, dV, kV, doc, pm, an, cdv, ct, osl, rfl, lk, hcd, _, _⟩ := Fd.ex
  intro A outer s H us vs Q E hg hr e0 r h
  have hl : vs.length = ps.length := by
    obtain ⟨rg, M, ds, P0, R, h1, h2, h3, h4, h5, _⟩ := h
    rw [← h4.length, len _ _ _ h5]
  have hl2 : us.length = ps.length := by rw [← r.length, hl]
  have b := hb s us (e0.mod.kin.keeps fun b o e => (e0.bs b o e).1) (by rw [List.append_nil]; exact hl2)
  rw [List.append_nil] at b
  exact LamX.run_ofS lk hcd S hr e0 b r hl fun hr' => body_run hT hbody (fun _ => hg) hr' h
/-- def f(a, .., *v) -/
theorem reps_split {rg : Addr} {M : List Addr} {H : Hp} : ∀ {as bs : List D} {vs : List V}, Reps K rg M H (as ++ bs) vs → ∃ us ws, vs = us ++ ws ∧ Reps K rg M H as us ∧ Reps K rg M H bs ws
  | [], bs, vs, h => ⟨[], vs, rfl, .nil, h⟩
  | a :: as, bs, _, .cons r t => by
    obtain ⟨us, ws, rfl, h1, h2⟩ := reps_split (as := as) t
    exact ⟨_ :: us, ws, rfl, .cons r h1, h2⟩
theorem fnR_star {pv : Str} (Fd : FunD K x qual params body scope [] [] fa fd) (S : FnScope N (ps ++ [pv]) scope) (hb : ∀ us rest : List Value, us.length = ps.length → bindArgs fd ⟨us ++ rest, []⟩ = (newTuple rest >>= fun t => pure (ps.zip us ++ [(pv, t)]))) (hT : TOk T)
    (hbody : BodyD P w K mg base N qual scope fa body k T False f) : FnR P w K mg base (L2.CX P w) (k + 1) fa (spD T K fun ds Q R => ∃ as bs, ds = as ++ bs ∧ as.length = ps.length ∧ bs.length ≤ sizeLine ∧ f (as ++ [.tup bs]) Q R) := by
  obtain ⟨oc, od, dV, kV, doc, pm, an, cdv, ct, osl, rfl, lk, hcd, _, _⟩ := Fd.ex
  refine FnR.imp (StX.fn_star lk hcd S StX.cxUp hb fun A outer s H vs Q E hr hsp => body_run hT hbody (fun z => z.elim) hr hsp) fun vs H Q E h => ?_
  obtain ⟨rg, M, ds, P0, R, h1, h2, h3, h4, ⟨as, bs, rfl, hl, hz, h5⟩, h6, h7⟩ := h
  obtain ⟨us, ws, rfl, r1, r2⟩ := reps_split h4
  refine ⟨us, ws, rfl, by rw [← r1.length]; exact hl, by rw [← r2.length]; exact hz, fun p hp => ?_⟩
  have e := ext_new (o := .tup ws) hT h2 h1 hp
  exact ⟨rg, M, as ++ [.tup bs], P0, R, h1, h2.mono e, e.tab h3, (Reps.monoE e h1 r1).append (.cons (rep_tup hT h2 h1 hp r2) .nil), h5, fun d hd H' v e' r => h6 d hd H' v (e.trans e') r, fun y hy H' cls dd e' rx => h7 y hy H' cls dd (e.trans e') rx⟩
/-- with one default: the promise of the call without it -/
theorem fnR_dfl {dvs : List V} {ds0 : List Value} {kws : List (Str × V)} {dds : List D} (Fd : FunD K x qual params body scope dvs kws fa fd) (S : FnScope N ps scope) (hb : Binds K fd ps ds0) {dv0 : List V} (hd : Vals dv0 ds0) (hr0 : ∀ rg M H, Reps K rg M H dds dv0) (len : ∀ ds Q R, f ds Q R → ds.length = ps.length) (hT : TOk T)
    (hbody : BodyD P w K mg base N qual scope fa body k T False f) : FnR P w K mg base (L2.CX P w) (k + 1) fa (spD T K fun ds Q R => f (ds ++ dds) Q R) :=
  fnD Fd S hb hd hr0 len hT fun cdv A outer s H E g EW ds Q hg B hf => hbody cdv A outer s H E g EW ds Q hg (fun z => z.elim) B hf
end
end DL
namespace DL
open PySem PySem.Spec PyProof.Rows L2
/-- a field of an object of the class c -/
def selF (c f : Str) : F1 := fun d Q => match d with
  | .obj c' fs => c' = c ∧ (match fs.lookup f with
    | some v => Q v
    | none => False)
  | _ => False
theorem fldOk {K : PySem.W.Frag} {c f : Str} (cl : Cls K (He.ga K c)) (na : NoAttr K (He.ga K c) f) : FldOk K f (selF c f) := by
  intro d Q h
  unfold selF at h
  split at h
  · obtain ⟨rfl, h⟩ := h
    split at h
    · rename_i fs _ v e
      exact ⟨_, fs, v, rfl, cl, na, e, h⟩
    · exact h.elim
  · exact h.elim
theorem propOk {X : Cx} {c x fl : Str} (pg : PropG X.prog X.w X.K X.mg X.base c x fl) : PropOk X x (selF c fl) := by
  intro d Q h
  unfold selF at h
  split at h
  · obtain ⟨rfl, h⟩ := h
    split at h
    · rename_i fs _ v e
      exact ⟨_, fl, fs, v, rfl, pg, e, h⟩
    · exact h.elim
  · exact h.elim
section
variable {X : Cx} {g : G} {x : Str} {pos : Pos}
theorem d_globI {i : Int} (hm : ∃ t, X.mg x = some (.int i t)) (hg : Gl X x := by rfl) (hd : (x == ("__debug__" : Str)) = false := by decide) : PE X (.Name x pos) (liftE g X.K (wC (.int i))) := by
  obtain ⟨t, hm⟩ := hm
  exact d_glob (v := .int i) hm ⟨t, rfl⟩ (fun _ _ => .int i) hg hd
theorem passF : PassD X g (fun _ => False) := passes_call LamX.takes0 fun _ _ _ _ ⟨_, _, _, z⟩ => z
end
/-- an own def that is a property's getter -/
def prAt (K : PySem.W.Frag) (c m : Str) : Addr := match PySem.W.recIn K (He.ma K (He.ga K c) m) "property" with
  | some (.ref f :: _) => f
  | _ => 0
theorem propG_of {P : Program} {w : World} {K : PySem.W.Frag} {mg : Str → Option Value} {base : Heap} {c x fl qual : Str} {fa : Addr} {params : Arguments} {body : List Stmt} {scope : Scope} {p1 p2 p3 : Pos} (cl : Cls K (He.ga K c)) (na : NoAttr K (He.ga K c) fl) (hp : ∃ p, PropOf K (He.ga K c) x p fa)
    (Fd : ∃ fd, FunD K x qual params body scope [] [] fa fd) (S : FnScope ["self"] ["self"] scope) (hb : body = [.Return (some (.Attribute (.Name "self" p1) fl p2)) p3])
    (bi : ∀ (kV doc pm : Value) (an : Option Addr) (cdv ct : Value) (us : List Value), us.length = 1 → bindArgs (PySem.W.fnOf x qual params body scope .none kV doc pm an cdv ct) ⟨us, []⟩ = pure ((["self"] : List Str).zip us)) : PropG P w K mg base c x fl := by
  obtain ⟨p, hp⟩ := hp
  obtain ⟨fd, F⟩ := Fd
  refine ⟨cl, p, fa, fd, hp, ?_, F.bindsN bi⟩
  obtain ⟨oc, od, dV, kV, doc, pm, an, cdv, ct, osl, rfl, lk, hcd, _, _⟩ := F.ex
  exact fn_getter lk hcd S rfl hb cl na
/-! ### an own exception's __init__ -/
section
variable {P : Program} {w : World} {K : PySem.W.Frag} {mg : Str → Option Value} {base : Heap} {c qual f1 f2 p q : Str} {params : Arguments} {body : List Stmt} {scope : Scope} {fa : Addr} {fd : FuncData} {a1 a2 a3 a4 a5 b1 b2 b3 b4 : Pos}
theorem exInit1 (T : OexC K (He.ga K c)) (Fd : FunD K "__init__" qual params body scope [] [] fa fd) (S : FnScope ["self", p] ["self", p] scope) (no : PySem.W.findIn K (.ref (He.ga K c)) f1 = some none)
    (hb : body = [.Assign [.Attribute (.Name "self" a1) f1 a2] (.Name p a3) a4]) (hp : (p == ("__debug__" : Str)) = false) (hp2 : (p == ("__classdict__" : Str)) = false) : FnOk P w K mg base CX0 2 fa fd ["self", p] (spE K c 1 fun vs => match vs with | [v] => [(f1, v)] | _ => []) := by
  subst hb
  refine Fd.ok S (fun vs H Q E h => ?_) fun cdv A outer s H vs Q E hr h => ?_
  · obtain ⟨a, ws, rfl, hl, _⟩ := h
    rw [List.length_cons, hl]; rfl
  · obtain ⟨a, ws, rfl, hl, hH, q⟩ := h
    obtain ⟨v, rfl⟩ : ∃ v, ws = [v] := by
      match ws, hl with
      | [v], _ => exact ⟨v, rfl⟩
    have v0 : Vis scope "self" := (S.par "self" (List.Mem.head _)).elim .inl fun z => .inr (.inl z)
    have v1 : Vis scope p := (S.par p (.tail _ (List.Mem.head _))).elim .inl fun z => .inr (.inl z)
    refine ⟨_, pss_one (ps_ost (pe_var (i := 0) rfl v0 (by decide) (by decide)) (pe_var (i := 1) rfl v1 hp hp2)), ?_⟩
    refine ⟨v, rfl, .ref a, rfl, a, He.ga K c, rfl, T, no, ?_⟩
    exact .inl ⟨hH, fun dx h1 h2 => q dx h1 h2 _ (fun b n1 n2 => by rw [upd_ne n1, upd_ne n2]) upd_same (by rw [upd_ne h2]; exact upd_same)⟩
theorem exInit2 (T : OexC K (He.ga K c)) (Fd : FunD K "__init__" qual params body scope [] [] fa fd) (S : FnScope ["self", p, q] ["self", p, q] scope) (no : PySem.W.findIn K (.ref (He.ga K c)) f1 = some none) (no2 : PySem.W.findIn K (.ref (He.ga K c)) f2 = some none)
    (hb : body = [.Assign [.Attribute (.Name "self" a1) f1 a2] (.Name p a3) a4, .Assign [.Attribute (.Name "self" b1) f2 b2] (.Name q b3) b4]) (hp : (p == ("__debug__" : Str)) = false) (hp2 : (p == ("__classdict__" : Str)) = false) (hq : (q == ("__debug__" : Str)) = false) (hq2 : (q == ("__classdict__" : Str)) = false) :
    FnOk P w K mg base CX0 2 fa fd ["self", p, q] (spE K c 2 fun vs => match vs with | [v, u] => [(f2, u), (f1, v)] | _ => []) := by
  subst hb
  refine Fd.ok S (fun vs H Q E h => ?_) fun cdv A outer s H vs Q E hr h => ?_
  · obtain ⟨a, ws, rfl, hl, _⟩ := h
    rw [List.length_cons, hl]; rfl
  · obtain ⟨a, ws, rfl, hl, hH, k⟩ := h
    obtain ⟨v, u, rfl⟩ : ∃ v u, ws = [v, u] := by
      match ws, hl with
      | [v, u], _ => exact ⟨v, u, rfl⟩
    have v0 : Vis scope "self" := (S.par "self" (List.Mem.head _)).elim .inl fun z => .inr (.inl z)
    have v1 : Vis scope p := (S.par p (.tail _ (List.Mem.head _))).elim .inl fun z => .inr (.inl z)
    have v2 : Vis scope q := (S.par q (.tail _ (.tail _ (List.Mem.head _)))).elim .inl fun z => .inr (.inl z)
    refine ⟨_, pss_cons (ps_ost (pe_var (i := 0) rfl v0 (by decide) (by decide)) (pe_var (i := 1) rfl v1 hp hp2)) (pss_one (ps_ost (pe_var (i := 0) rfl v0 (by decide) (by decide)) (pe_var (i := 2) rfl v2 hq hq2))), ?_⟩
    refine ⟨v, rfl, .ref a, rfl, a, He.ga K c, rfl, T, no, .inl ⟨hH, fun dx h1 h2 => ?_⟩⟩
    refine ⟨u, rfl, .ref a, rfl, a, He.ga K c, rfl, T, no2, .inr ⟨dx, [(f1, v)], upd_same, by rw [upd_ne h2]; exact upd_same, by simp, ?_⟩⟩
    exact k dx h1 h2 _ (fun b n1 n2 => by rw [upd_ne n2, upd_ne n1, upd_ne n2]) (by rw [upd_ne (Ne.symm h2)]; exact upd_same) upd_same
end
end DL
namespace DL
open PySem PySem.Spec PyProof.Rows L2
section
variable {X : Cx} {g : G} {e o c a b : Expr} {w wa wb : WE} {wc wt wf : WT} {pos p : Pos} {f : F} {EW : D → Prop} {k : Nat} {fa : Addr} {cn : Str}
theorem d_cls {x : Str} {pos : Pos} (hm : X.mg x = some (.ref (He.ga X.K x))) (hg : Gl X x := by rfl) (hd : (x == ("__debug__" : Str)) = false := by decide) : PE X (.Name x pos) (liftE g X.K (wC (.cls x))) :=
  d_glob (v := .ref (He.ga X.K x)) (u := .ref (He.ga X.K x)) hm rfl (fun _ _ => .cls x) hg hd
/-! ### comparisons, x if c else y as tests -/
theorem tst_e {σ : L2.St} {H : Hp} {Q : Bool → Hp → Prop} (h : liftT g X.K (wTst w) σ H Q) : liftE g X.K w σ H fun x H' => ∃ k, x = .bl k ∧ Q k H' := by
  obtain ⟨M, ρ, P, s, h, q⟩ := h
  refine ⟨M, ρ, _, s, h, fun d h1 H1 v e1 r1 => ?_⟩
  split at h1
  · exact ⟨_, r1.bl_v, q _ h1 H1 e1⟩
  · exact h1.elim
theorem dt_r {op : CmpOp} {r : R2} {ta tb : TE} (ho : OpR X (compareOp op) r) (ha : PE X a ta) (hb : PE X b tb) (hm : behindInMarks op b = false) (conv : ∀ σ H Q, liftE g X.K w σ H Q → tOp r ta tb σ H Q) : PT X (.Compare a [op] [b] pos) (liftT g X.K (wTst w)) :=
  pt_imp (pt_cmpR ho ha hb hm) fun σ H Q h => conv _ _ _ (tst_e h)
theorem dt_cmp {op : CmpOp} {f : F2} (ho : OpD X g.T (compareOp op) f) (ha : PE X a (liftE g X.K wa)) (hb : PE X b (liftE g X.K wb)) (hm : behindInMarks op b = false := by first | exact nomark _ | rfl) : PT X (.Compare a [op] [b] pos) (liftT g X.K (wTst (wBin f wa wb))) :=
  dt_r ho ha hb hm fun _ _ _ => two
theorem isN_t {σ : L2.St} {H : Hp} {Q : VK} (h : liftE g X.K (wUn fIsN w) σ H Q) : liftE g X.K w σ H fun x H1 => Q (.bl (decide (x = .non))) H1 := by
  obtain ⟨M, ρ, P, s, h, q⟩ := h
  refine ⟨M, ρ, _, s, h, fun d h1 H1 v e1 r1 => ?_⟩
  show Q _ _
  rw [rep_non r1]
  unfold fIsN at h1
  split at h1
  · exact q _ h1 H1 _ e1 (.bl _)
  · rename_i hn
    cases d <;> first | exact (hn rfl).elim | exact q _ h1 H1 _ e1 (.bl _)
theorem notN_t {σ : L2.St} {H : Hp} {Q : VK} (h : liftE g X.K (wUn fNotN w) σ H Q) : liftE g X.K w σ H fun x H1 => Q (.bl (!decide (x = .non))) H1 := by
  obtain ⟨M, ρ, P, s, h, q⟩ := h
  refine ⟨M, ρ, _, s, h, fun d h1 H1 v e1 r1 => ?_⟩
  show Q _ _
  rw [rep_non r1]
  unfold fNotN at h1
  split at h1
  · exact q _ h1 H1 _ e1 (.bl _)
  · rename_i hn
    cases d <;> first | exact (hn rfl).elim | exact q _ h1 H1 _ e1 (.bl _)
theorem dt_isN {j : Nat} {p' : Pos} (h : PE X a (liftE g X.K w)) : PT X (.Compare a [.Is] [.Constant .none j p'] pos) (liftT g X.K (wTst (wUn fIsN w))) := dt_r op_isN h pe_non (nomark _) fun σ H Q hh => by
  obtain ⟨M, ρ, P, s, h, q⟩ := isN_t hh
  exact ⟨M, ρ, P, s, h, fun d hd H1 v e r => ⟨rfl, q d hd H1 v e r⟩⟩
theorem dt_notN {j : Nat} {p' : Pos} (h : PE X a (liftE g X.K w)) : PT X (.Compare a [.IsNot] [.Constant .none j p'] pos) (liftT g X.K (wTst (wUn fNotN w))) := dt_r op_notN h pe_non (nomark _) fun σ H Q hh => by
  obtain ⟨M, ρ, P, s, h, q⟩ := notN_t hh
  exact ⟨M, ρ, P, s, h, fun d hd H1 v e r => ⟨rfl, q d hd H1 v e r⟩⟩
theorem dt_ownEq (ho : OwnAt X.K cn "__eq__" fa) (F : FnD X g.T k fa f) (hr : Room k X.A) (hx : PassD X g EW) (ha : PE X a (liftE g X.K wa)) (hb : PE X b (liftE g X.K wb)) :
    PT X (.Compare a [.Eq] [b] pos) (liftT g X.K (wTst (wOwn2 cn (isC cn) f EW wa wb))) := dt_r (op_spEq F hr hx ho) ha hb (nomark _) fun _ _ _ => own_t fun _ _ _ _ r h => rep_isC r h
theorem ownNe_t {σ : L2.St} {H : Hp} {Q : VK} (h : liftE g X.K (wOwn2 cn (isC cn) (fNotF f) EW wa wb) σ H Q) :
    tOp (rSp (He.ga X.K cn) (isInst (He.ga X.K cn)) (spNot (spD g.T X.K f)) (liftX g.T g.rg g.M0 g.H0 X.K EW)) (liftE g X.K wa) (liftE g X.K wb) σ H Q := by
  obtain ⟨M, ρ, P, s, h, q⟩ := h
  refine ⟨M, ρ, _, s, h, fun dx h1 H1 x e1 r1 => ?_⟩
  refine ⟨M, ρ, _, s.mono e1, h1, fun dy h2 H2 y e2 r2 => ?_⟩
  have r1' := r1.monoE e2 s.rgM
  obtain ⟨p, z, vs, e, hp⟩ := rep_isC r1' h2.1
  refine ⟨p, z, vs, e, hp, rep_isC r2 h2.2.1, sp_of ((s.mono e1).mono e2) (.cons r1' (.cons r2 .nil)) h2.2.2 fun d hd H3 v e3 r3 => ?_⟩
  split at hd
  · exact ⟨_, r3.bl_v, q _ hd H3 _ ((e1.trans e2).trans e3) (.bl _)⟩
  · exact hd.elim
theorem dt_ownNe (ho : OwnAt X.K cn "__eq__" fa) (hn : PySem.W.findIn X.K (.ref (He.ga X.K cn)) "__ne__" = some (some (.builtin "object.__ne__"))) (hm : PySem.W.mroIn X.K (He.ga X.K cn) (.type "object") = some true) (F : FnD X g.T k fa f) (hr : Room (k + 1) X.A) (hx : PassD X g EW) (ha : PE X a (liftE g X.K wa)) (hb : PE X b (liftE g X.K wb)) :
    PT X (.Compare a [.NotEq] [b] pos) (liftT g X.K (wTst (wOwn2 cn (isC cn) (fNotF f) EW wa wb))) := dt_r (op_spNe F hr hx ho hn hm) ha hb (nomark _) fun _ _ _ => ownNe_t
def wIfT (c w u : WT) : WT := fun ρ Q => c ρ fun b => match b with
  | true => w ρ Q
  | false => u ρ Q
theorem dt_if (hc : PT X c (liftT g X.K wc)) (ha : PT X a (liftT g X.K wt)) (hb : PT X b (liftT g X.K wf)) : PT X (.IfExp c a b pos) (liftT g X.K (wIfT wc wt wf)) := ⟨fun pins s σ H Q I h => by
  obtain ⟨M, ρ, P, st, h, q⟩ := h
  refine isTrue_IfExp (wpAny_mono (hc.run pins s σ H (fun b H1 => match b with
    | true => liftT g X.K wt σ H1 Q
    | false => liftT g X.K wf σ H1 Q) I ⟨M, ρ, _, st, h, fun b hb H1 e1 => ?_⟩) (fun b s1 z => ?_) fun _ _ z => z)
  · cases b with
    | true => exact ⟨M, ρ, P, st.mono e1, hb, fun b hb H2 e2 => q b hb H2 (e1.trans e2)⟩
    | false => exact ⟨M, ρ, P, st.mono e1, hb, fun b hb H2 e2 => q b hb H2 (e1.trans e2)⟩
  · obtain ⟨H1, I1, z⟩ := z
    cases b with
    | true => exact ha.run pins s1 σ H1 Q I1 z
    | false => exact hb.run pins s1 σ H1 Q I1 z⟩
end
end DL
namespace DL
open PySem PySem.Spec PyProof.Rows L2
/-! ### what stands of BD in a loop's body, in a comprehension -/
theorem BD.gh {X : Cx} {g : G} {k : Nat} {EW : D → Prop} (B : BD X g k EW) (gh : List (V × D)) : BD X { g with gh := gh } k EW := ⟨B.room, B.pass, B.take, B.hT⟩
theorem BD.blk {X : Cx} {g : G} {k : Nat} {EW : D → Prop} (B : BD X g k EW) (gh : List (V × D)) (s : Shared) (H : Hp) (scope : Scope) (cenv : Env) (fp : List Addr) : BD (X.blk s H scope cenv fp) { g with gh := gh } k (fun _ => False) :=
  ⟨B.room, passF, Takes.imp LamX.takes0 fun _ _ _ _ ⟨_, _, _, z⟩ => z, B.hT⟩
end DL
namespace DL
open PySem PySem.Spec PyProof.Rows L2
/-! what the program's defs do -/
/-- the exceptions' fields -/
def ex_InvalidNumber : List D → List (Str × D)
  | [v] => [("value", v)]
  | _ => []
def exm_InvalidNumber : List V → List (Str × V)
  | [v] => [("value", v)]
  | _ => []
def ex_InvalidMove : List D → List (Str × D)
  | [v] => [("part", v)]
  | _ => []
def exm_InvalidMove : List V → List (Str × V)
  | [v] => [("part", v)]
  | _ => []
def ex_InvalidCount : List D → List (Str × D)
  | [v] => [("value", v)]
  | _ => []
def exm_InvalidCount : List V → List (Str × V)
  | [v] => [("value", v)]
  | _ => []
def ex_TooMany : List D → List (Str × D)
  | [v, u] => [("limit", u), ("kind", v)]
  | _ => []
def exm_TooMany : List V → List (Str × V)
  | [v, u] => [("limit", u), ("kind", v)]
  | _ => []
section
variable {K : PySem.W.Frag} {rg : Addr} {M : List Addr} {H : Hp} {ds : List D} {vs : List V}
theorem exr_InvalidNumber (K : PySem.W.Frag) (rg : Addr) (M : List Addr) (H : Hp) (ds : List D) (vs : List V) (r : Reps K rg M H ds vs) : RepF K rg M H (ex_InvalidNumber ds) (exm_InvalidNumber vs) := by
  match ds, vs, r with
  | [], _, .nil => exact .nil
  | [_], _, .cons a .nil => exact .cons a .nil
  | _ :: _ :: _, _, .cons a (.cons b c) => exact .nil
theorem exr_InvalidMove (K : PySem.W.Frag) (rg : Addr) (M : List Addr) (H : Hp) (ds : List D) (vs : List V) (r : Reps K rg M H ds vs) : RepF K rg M H (ex_InvalidMove ds) (exm_InvalidMove vs) := by
  match ds, vs, r with
  | [], _, .nil => exact .nil
  | [_], _, .cons a .nil => exact .cons a .nil
  | _ :: _ :: _, _, .cons a (.cons b c) => exact .nil
theorem exr_InvalidCount (K : PySem.W.Frag) (rg : Addr) (M : List Addr) (H : Hp) (ds : List D) (vs : List V) (r : Reps K rg M H ds vs) : RepF K rg M H (ex_InvalidCount ds) (exm_InvalidCount vs) := by
  match ds, vs, r with
  | [], _, .nil => exact .nil
  | [_], _, .cons a .nil => exact .cons a .nil
  | _ :: _ :: _, _, .cons a (.cons b c) => exact .nil
theorem exr_TooMany (K : PySem.W.Frag) (rg : Addr) (M : List Addr) (H : Hp) (ds : List D) (vs : List V) (r : Reps K rg M H ds vs) : RepF K rg M H (ex_TooMany ds) (exm_TooMany vs) := by
  match ds, vs, r with
  | [], _, .nil => exact .nil
  | [_], _, .cons a .nil => exact .nil
  | [_, _], _, .cons a (.cons b .nil) => exact .cons b (.cons a .nil)
  | _ :: _ :: _ :: _, _, .cons a (.cons b (.cons c d)) => exact .nil
end
/-- isinstance's answers -/
def isK (x : D) (n : Nat) : Option Bool := match x with
  | .int _ => some (n == 0)
  | .bl _ => some (n == 0 || n == 1)
  | .non => some false
  | .str _ => some false
  | .tup _ => some false
  | .lst _ => some false
  | .dct0 => some false
  | .obj c _ => if c = "Ratio" then some (n == 2) else if c = "Move" then some (n == 3) else none
  | _ => none
def isiT (x c : D) : Option Bool := match c with
  | .ty n => if n = "int" then isK x 0 else if n = "bool" then isK x 1 else none
  | .cls n => if n = "Ratio" then isK x 2 else if n = "Move" then isK x 3 else none
  | _ => none
/-- a Ratio, a Move -/
def ro (q : Rat) : D := .obj "Ratio" [("own_top", .int q.num), ("own_bottom", .int (q.den : Int))]
def mv (d : Int) (p l h : Rat) : D := .obj "Move" [("own_divisor", .int d), ("own_plus", ro p), ("own_low", ro l), ("own_high", ro h)]
/-- a number, as an integer or a Ratio -/
def Nm (q : Rat) (d : D) : Prop := d = ro q ∨ (d = .int q.num ∧ q.den = 1)
/-- numbers of at most n bits -/
def Sz (n : Nat) (q : Rat) : Prop := q.num.natAbs < 2 ^ n ∧ q.den < 2 ^ n
/-- is it an integer, a number (None: not asked) -/
def intB (d : D) : Option Bool := match isK d 0, isK d 1 with
  | some a, some b => some (a && !b)
  | _, _ => none
def numB (d : D) : Option Bool := match intB d, isK d 2 with
  | some a, some b => some (a || b)
  | _, _ => none
@[irreducible] def f_is_integer : F := fun ds Q _ => ∃ d b, ds = [d] ∧ intB d = some b ∧ Q (.bl b)
@[irreducible] def f_is_number : F := fun ds Q _ => ∃ d b, ds = [d] ∧ numB d = some b ∧ Q (.bl b)
@[irreducible] def f_require_number : F := fun ds Q R => ∃ d b, ds = [d] ∧ numB d = some b ∧ (b = true → Q .non) ∧ (b = false → R (.obj "InvalidNumber" [("value", d)]))
@[irreducible] def f_divisor_of : F := fun ds Q _ => ∃ a b : Int, ds = [.int a, .int b] ∧ Q (.int (Nat.gcd a.natAbs b.natAbs : Nat))
@[irreducible] def f_is_less : F := fun ds Q _ => ∃ q r : Rat, ds = [ro q, ro r] ∧ Sz 4000 q ∧ Sz 4000 r ∧ Q (.bl (decide (q < r)))
@[irreducible] def f_Ratio___init__ : F := fun ds Q _ => ∃ a b : Int, ds = [.int a, .int b] ∧ b ≠ 0 ∧ a.natAbs < 2 ^ 8500 ∧ b.natAbs < 2 ^ 8500 ∧ Q (ro (Rat.divInt a b))
@[irreducible] def f_Ratio_of : F := fun ds Q _ => ∃ q d, ds = [.cls "Ratio", d] ∧ Nm q d ∧ Sz 4000 q ∧ Q (ro q)
@[irreducible] def f_extreme_of : F := fun ds Q _ => ∃ q r a b w, ds = [.tup [a, b], .bl w] ∧ Nm q a ∧ Nm r b ∧ Sz 4000 q ∧ Sz 4000 r ∧ Q (ro (if w = true then (if r < q then r else q) else (if q < r then r else q)))
@[irreducible] def f_Ratio_least : F := fun ds Q _ => ∃ q r a b, ds = [.cls "Ratio", .tup [a, b]] ∧ Nm q a ∧ Nm r b ∧ Sz 4000 q ∧ Sz 4000 r ∧ Q (ro (if r < q then r else q))
@[irreducible] def f_Ratio_greatest : F := fun ds Q _ => ∃ q r a b, ds = [.cls "Ratio", .tup [a, b]] ∧ Nm q a ∧ Nm r b ∧ Sz 4000 q ∧ Sz 4000 r ∧ Q (ro (if q < r then r else q))
def starF (n : Nat) (f : F) : F := fun ds Q R => ∃ as bs, ds = as ++ bs ∧ as.length = n ∧ bs.length ≤ sizeLine ∧ f (as ++ [.tup bs]) Q R
@[irreducible] def f_Ratio___add__ : F := fun ds Q _ => ∃ q r d, ds = [ro q, d] ∧ Nm r d ∧ Sz 4000 q ∧ Sz 4000 r ∧ Q (ro (q + r))
@[irreducible] def f_Ratio___mul__ : F := fun ds Q _ => ∃ q r d, ds = [ro q, d] ∧ Nm r d ∧ Sz 4000 q ∧ Sz 4000 r ∧ Q (ro (q * r))
@[irreducible] def f_Ratio_over : F := fun ds Q _ => ∃ q r d, ds = [ro q, d] ∧ Nm r d ∧ Sz 4000 q ∧ Sz 4000 r ∧ r ≠ 0 ∧ Q (ro (q / r))
@[irreducible] def f_Ratio___eq__ : F := fun ds Q _ => ∃ q r, ds = [ro q, ro r] ∧ Q (.bl (decide (q = r)))
/-- no Move: what is refused -/
def noMv (d : D) : Prop := isK d 3 = some false
@[irreducible] def f_require_move : F := fun ds Q R => ∃ d b, ds = [d] ∧ isK d 3 = some b ∧ (b = true → Q .non) ∧ (b = false → R (.obj "InvalidMove" [("part", .str "other")]))
@[irreducible] def f_Move___init__ : F := fun ds Q _ => ∃ (d : Int) (p l h : Rat) (dp dl dh : D), ds = [.int d, dp, dl, dh] ∧ 1 ≤ d ∧ Nm p dp ∧ Nm l dl ∧ Nm h dh ∧ Sz 4000 p ∧ Sz 4000 l ∧ Sz 4000 h ∧ l ≤ h ∧ Q (mv d p l h)
@[irreducible] def f_Move_free : F := fun ds Q _ => ∃ d p l h x e, ds = [mv d p l h, e] ∧ Nm x e ∧ 1 ≤ d ∧ d.natAbs < 2 ^ 800 ∧ Sz 1900 p ∧ Sz 1900 x ∧ Q (ro ((x + p) / (d : Rat)))
def hold (l h x : Rat) : Rat := let y := if l < x then x else l; if y < h then y else h
@[irreducible] def f_Move_held : F := fun ds Q _ => ∃ d p l h x e, ds = [mv d p l h, e] ∧ Nm x e ∧ Sz 4000 l ∧ Sz 4000 h ∧ Sz 4000 x ∧ Q (ro (hold l h x))
/-- what a move makes of a number -/
def mAt (d : Int) (p l h x : Rat) : Rat := hold l h ((x + p) / (d : Rat))
/-- a move of moderate size -/
structure MOk (d : Int) (p l h : Rat) : Prop where
  d1 : 1 ≤ d
  ds : d.natAbs < 2 ^ 800
  ps : Sz 1000 p
  ls : Sz 1000 l
  hs : Sz 1000 h
  lh : l ≤ h
@[irreducible] def f_Move_at : F := fun ds Q _ => ∃ d p l h x e, ds = [mv d p l h, e] ∧ Nm x e ∧ MOk d p l h ∧ Sz 1900 x ∧ Q (ro (mAt d p l h x))
@[irreducible] def f_Move_then : F := fun ds Q R => ∃ d p l h e b, ds = [mv d p l h, e] ∧ isK e 3 = some b ∧ (b = false → R (.obj "InvalidMove" [("part", .str "other")])) ∧
  (b = true → ∃ d2 p2 l2 h2, e = mv d2 p2 l2 h2 ∧ MOk d p l h ∧ MOk d2 p2 l2 h2 ∧ Q (mv (d * d2) (p + p2 * (d : Rat)) (mAt d2 p2 l2 h2 l) (mAt d2 p2 l2 h2 h)))
@[irreducible] def f_Move_added : F := fun ds Q _ => ∃ p l h n, ds = [mv 1 p l h, .int n] ∧ MOk 1 p l h ∧ 1 ≤ n ∧ n.natAbs < 2 ^ 300 ∧ Q (mv 1 (p * (n : Rat)) (hold l h (l + p * ((n - 1 : Int) : Rat))) (hold l h (h + p * ((n - 1 : Int) : Rat))))
/-- a move k times -/
structure MvR where
  d : Int
  p : Rat
  l : Rat
  h : Rat
def MvR.D (m : MvR) : D := mv m.d m.p m.l m.h
def MvR.Ok (m : MvR) : Prop := MOk m.d m.p m.l m.h
def MvR.th (m n : MvR) : MvR := ⟨m.d * n.d, m.p + n.p * (m.d : Rat), mAt n.d n.p n.l n.h m.l, mAt n.d n.p n.l n.h m.h⟩
def MvR.pt (m : MvR) (x : Rat) : Rat := mAt m.d m.p m.l m.h x
/-- done n + 1 times, one after the other -/
def MvR.iter (m : MvR) : Nat → MvR
  | 0 => m
  | n + 1 => (m.iter n).th m
def MvR.added (m : MvR) (n : Int) : MvR := ⟨1, m.p * (n : Rat), hold m.l m.h (m.l + m.p * ((n - 1 : Int) : Rat)), hold m.l m.h (m.h + m.p * ((n - 1 : Int) : Rat))⟩
@[irreducible] def f_Move_done : F := fun ds Q R => ∃ (m : MvR) (e : D) (b : Bool), ds = [m.D, e] ∧ m.Ok ∧ intB e = some b ∧ (b = false → R (.obj "InvalidCount" [("value", e)])) ∧
  (b = true → ∃ n : Int, e = .int n ∧ (n < 1 → R (.obj "InvalidCount" [("value", e)])) ∧ (1 ≤ n → (m.d = 1 → n.natAbs < 2 ^ 300 ∧ Q (m.added n).D) ∧ (m.d ≠ 1 → (100 < n → R (.obj "TooMany" [("limit", .int 100), ("kind", .str "times")])) ∧
    (n ≤ 100 → (∀ k, k < n.toNat → (m.iter k).Ok) ∧ Q (m.iter (n.toNat - 1)).D))))
@[irreducible] def f_Move___eq__ : F := fun ds Q _ => ∃ m n : MvR, ds = [m.D, n.D] ∧ Q (.bl (decide (m.d = n.d ∧ m.p = n.p ∧ m.l = n.l ∧ m.h = n.h)))
end DL
namespace DL
open PySem PySem.Spec PyProof.Rows L2
def f_Ratio___init___2 : F := (fun ds Q R => f_Ratio___init__ (ds ++ []) Q R)
def f_Ratio___init___1 : F := (fun ds Q R => f_Ratio___init__ (ds ++ [.int 1]) Q R)
def ws_is_integer (EW : D → Prop) : WS := wRet (wAndV (wB (fIsi isiT) (wCons (wVar 0) (wCons (wC (.ty "int")) (wNil)))) (wNotV (wB (fIsi isiT) (wCons (wVar 0) (wCons (wC (.ty "bool")) (wNil))))))
def ws_is_number (EW : D → Prop) : WS := wRet (wOrV (wCall f_is_integer EW (wCons (wVar 0) (wNil))) (wB (fIsi isiT) (wCons (wVar 0) (wCons (wC (.cls "Ratio")) (wNil)))))
def ws_require_number (EW : D → Prop) : WS := wIf (wNot (wTst (wCall f_is_number EW (wCons (wVar 0) (wNil))))) (wRaise "InvalidNumber" 1 ex_InvalidNumber EW (wCons (wVar 0) (wNil))) (wNext)
def ws_divisor_of (EW : D → Prop) : WS := wSeq (wPar2 0 1 (wCons (wB fAbs (wCons (wVar 0) (wNil))) (wCons (wB fAbs (wCons (wVar 1) (wNil))) (wNil)))) (wSeq (wWhile (wTst (wBin fGt (wVar 1) (wC (.int 0)))) (wPar2 0 1 (wCons (wVar 1) (wCons (wBin fMod (wVar 0) (wVar 1)) (wNil))))) (wRet (wVar 0)))
def ws_is_less (EW : D → Prop) : WS := wRet (wBin fLt (wBin fMul (wUn (selF "Ratio" "own_top") (wVar 0)) (wUn (selF "Ratio" "own_bottom") (wVar 1))) (wBin fMul (wUn (selF "Ratio" "own_top") (wVar 1)) (wUn (selF "Ratio" "own_bottom") (wVar 0))))
def ws_Ratio___init__ (EW : D → Prop) : WS := wSeq (wIf (wNot (wTst (wCall f_is_integer EW (wCons (wVar 1) (wNil))))) (wRaise "InvalidNumber" 1 ex_InvalidNumber EW (wCons (wVar 1) (wNil))) (wNext)) (wSeq (wIf (wOr (wNot (wTst (wCall f_is_integer EW (wCons (wVar 2) (wNil))))) (wTst (wBin fEqI (wVar 2) (wC (.int 0))))) (wRaise "InvalidNumber" 1 ex_InvalidNumber EW (wCons (wVar 2) (wNil))) (wNext)) (wSeq (wAsg (wIfE (wTst (wBin fGt (wVar 2) (wC (.int 0)))) (wCall f_divisor_of EW (wCons (wVar 1) (wCons (wVar 2) (wNil)))) (wUn fNegI (wCall f_divisor_of EW (wCons (wVar 1) (wCons (wVar 2) (wNil)))))) (gN 3)) (wSeq (wSetF "Ratio" "own_top" 0 (wBin fDiv (wVar 1) (wVar 3))) (wSetF "Ratio" "own_bottom" 0 (wBin fDiv (wVar 2) (wVar 3))))))
def ws_Ratio_of (EW : D → Prop) : WS := wSeq (wDrop (wCall f_require_number EW (wCons (wVar 1) (wNil)))) (wRet (wIfE (wTst (wCall f_is_integer EW (wCons (wVar 1) (wNil)))) (wCall f_Ratio___init___1 EW (wCons (wVar 1) (wNil))) (wVar 1)))
def ws_extreme_of (EW : D → Prop) : WS := wSeq (wIf (wTst (wBin fEqI (wB fLen (wCons (wVar 0) (wNil))) (wC (.int 0)))) (wRaise "InvalidNumber" 1 ex_InvalidNumber EW (wCons (wC .non) (wNil))) (wNext)) (wSeq (wAsg (wCMeth "Ratio" f_Ratio_of EW (wC (.cls "Ratio")) (wCons (wBin fIx (wVar 0) (wC (.int 0))) (wNil))) (gN 2)) (wSeq (wFor (wIT (wVar 0)) (gN 3) (wSeq (wAsg (wCMeth "Ratio" f_Ratio_of EW (wC (.cls "Ratio")) (wCons (wVar 3) (wNil))) (gN 4)) (wIf (wIfT (wTst (wVar 1)) (wTst (wCall f_is_less EW (wCons (wVar 4) (wCons (wVar 2) (wNil))))) (wTst (wCall f_is_less EW (wCons (wVar 2) (wCons (wVar 4) (wNil)))))) (wAsg (wVar 4) (gN 2)) (wNext)))) (wRet (wVar 2))))
def ws_Ratio_least (EW : D → Prop) : WS := wRet (wCall f_extreme_of EW (wCons (wVar 1) (wCons (wC (.bl true)) (wNil))))
def ws_Ratio_greatest (EW : D → Prop) : WS := wRet (wCall f_extreme_of EW (wCons (wVar 1) (wCons (wC (.bl false)) (wNil))))
def ws_Ratio___add__ (EW : D → Prop) : WS := wSeq (wAsg (wCMeth "Ratio" f_Ratio_of EW (wC (.cls "Ratio")) (wCons (wVar 1) (wNil))) (gN 2)) (wSeq (wAsg (wBin fAdd (wBin fMul (wUn (selF "Ratio" "own_top") (wVar 0)) (wUn (selF "Ratio" "own_bottom") (wVar 2))) (wBin fMul (wUn (selF "Ratio" "own_top") (wVar 2)) (wUn (selF "Ratio" "own_bottom") (wVar 0)))) (gN 3)) (wRet (wCall f_Ratio___init___2 EW (wCons (wVar 3) (wCons (wBin fMul (wUn (selF "Ratio" "own_bottom") (wVar 0)) (wUn (selF "Ratio" "own_bottom") (wVar 2))) (wNil))))))
def ws_Ratio___mul__ (EW : D → Prop) : WS := wSeq (wAsg (wCMeth "Ratio" f_Ratio_of EW (wC (.cls "Ratio")) (wCons (wVar 1) (wNil))) (gN 2)) (wRet (wCall f_Ratio___init___2 EW (wCons (wBin fMul (wUn (selF "Ratio" "own_top") (wVar 0)) (wUn (selF "Ratio" "own_top") (wVar 2))) (wCons (wBin fMul (wUn (selF "Ratio" "own_bottom") (wVar 0)) (wUn (selF "Ratio" "own_bottom") (wVar 2))) (wNil)))))
def ws_Ratio_over (EW : D → Prop) : WS := wSeq (wAsg (wCMeth "Ratio" f_Ratio_of EW (wC (.cls "Ratio")) (wCons (wVar 1) (wNil))) (gN 2)) (wSeq (wIf (wTst (wBin fEqI (wUn (selF "Ratio" "own_top") (wVar 2)) (wC (.int 0)))) ((fun _ _ => False)) (wNext)) (wRet (wCall f_Ratio___init___2 EW (wCons (wBin fMul (wUn (selF "Ratio" "own_top") (wVar 0)) (wUn (selF "Ratio" "own_bottom") (wVar 2))) (wCons (wBin fMul (wUn (selF "Ratio" "own_bottom") (wVar 0)) (wUn (selF "Ratio" "own_top") (wVar 2))) (wNil))))))
def ws_Ratio___eq__ (EW : D → Prop) : WS := wRet (wAndV (wB (fIsi isiT) (wCons (wVar 1) (wCons (wC (.cls "Ratio")) (wNil)))) (wAndV (wBin fEqI (wUn (selF "Ratio" "own_top") (wVar 0)) (wUn (selF "Ratio" "own_top") (wVar 1))) (wBin fEqI (wUn (selF "Ratio" "own_bottom") (wVar 0)) (wUn (selF "Ratio" "own_bottom") (wVar 1)))))
def ws_require_move (EW : D → Prop) : WS := wIf (wNot (wTst (wB (fIsi isiT) (wCons (wVar 0) (wCons (wC (.cls "Move")) (wNil)))))) (wRaise "InvalidMove" 1 ex_InvalidMove EW (wCons (wC (.str "other")) (wNil))) (wNext)
def ws_Move___init__ (EW : D → Prop) : WS := wSeq (wIf (wOr (wNot (wTst (wCall f_is_integer EW (wCons (wVar 1) (wNil))))) (wTst (wBin fLt (wVar 1) (wC (.int 1))))) (wRaise "InvalidMove" 1 ex_InvalidMove EW (wCons (wC (.str "divisor")) (wNil))) (wNext)) (wSeq (wFor (wIT (wTup (wCons (wTup (wCons (wC (.str "plus")) (wCons (wVar 2) (wNil)))) (wCons (wTup (wCons (wC (.str "low")) (wCons (wVar 3) (wNil)))) (wCons (wTup (wCons (wC (.str "high")) (wCons (wVar 4) (wNil)))) (wNil)))))) (gTupD 2 (gsN [5, 6])) (wIf (wNot (wTst (wCall f_is_number EW (wCons (wVar 6) (wNil))))) (wRaise "InvalidMove" 1 ex_InvalidMove EW (wCons (wVar 5) (wNil))) (wNext))) (wSeq (wIf (wTst (wCall f_is_less EW (wCons (wCMeth "Ratio" f_Ratio_of EW (wC (.cls "Ratio")) (wCons (wVar 4) (wNil))) (wCons (wCMeth "Ratio" f_Ratio_of EW (wC (.cls "Ratio")) (wCons (wVar 3) (wNil))) (wNil))))) (wRaise "InvalidMove" 1 ex_InvalidMove EW (wCons (wC (.str "high")) (wNil))) (wNext)) (wSeq (wSetF "Move" "own_divisor" 0 (wVar 1)) (wSeq (wSetF "Move" "own_plus" 0 (wCMeth "Ratio" f_Ratio_of EW (wC (.cls "Ratio")) (wCons (wVar 2) (wNil)))) (wSeq (wSetF "Move" "own_low" 0 (wCMeth "Ratio" f_Ratio_of EW (wC (.cls "Ratio")) (wCons (wVar 3) (wNil)))) (wSetF "Move" "own_high" 0 (wCMeth "Ratio" f_Ratio_of EW (wC (.cls "Ratio")) (wCons (wVar 4) (wNil)))))))))
def ws_Move_free (EW : D → Prop) : WS := wRet (wMeth "Ratio" "over" f_Ratio_over EW (wOwn2 "Ratio" (isC "Ratio") f_Ratio___add__ EW (wCMeth "Ratio" f_Ratio_of EW (wC (.cls "Ratio")) (wCons (wVar 1) (wNil))) (wUn (selF "Move" "own_plus") (wVar 0))) (wCons (wUn (selF "Move" "own_divisor") (wVar 0)) (wNil)))
def ws_Move_held (EW : D → Prop) : WS := wRet (wCMeth "Ratio" (starF 1 f_Ratio_least) EW (wC (.cls "Ratio")) (wCons (wUn (selF "Move" "own_high") (wVar 0)) (wCons (wCMeth "Ratio" (starF 1 f_Ratio_greatest) EW (wC (.cls "Ratio")) (wCons (wUn (selF "Move" "own_low") (wVar 0)) (wCons (wVar 1) (wNil)))) (wNil))))
def ws_Move_at (EW : D → Prop) : WS := wSeq (wDrop (wCall f_require_number EW (wCons (wVar 1) (wNil)))) (wRet (wMeth "Move" "held" f_Move_held EW (wVar 0) (wCons (wMeth "Move" "free" f_Move_free EW (wVar 0) (wCons (wVar 1) (wNil))) (wNil))))
def ws_Move_then (EW : D → Prop) : WS := wSeq (wDrop (wCall f_require_move EW (wCons (wVar 1) (wNil)))) (wSeq (wAsg (wOwn2 "Ratio" (isC "Ratio") f_Ratio___add__ EW (wUn (selF "Move" "own_plus") (wVar 0)) (wOwn2 "Ratio" isI f_Ratio___mul__ EW (wUn (selF "Move" "own_plus") (wVar 1)) (wUn (selF "Move" "own_divisor") (wVar 0)))) (gN 2)) (wRet (wCall f_Move___init__ EW (wCons (wBin fMul (wUn (selF "Move" "own_divisor") (wVar 0)) (wUn (selF "Move" "own_divisor") (wVar 1))) (wCons (wVar 2) (wCons (wMeth "Move" "at" f_Move_at EW (wVar 1) (wCons (wUn (selF "Move" "own_low") (wVar 0)) (wNil))) (wCons (wMeth "Move" "at" f_Move_at EW (wVar 1) (wCons (wUn (selF "Move" "own_high") (wVar 0)) (wNil))) (wNil))))))))
def ws_Move_added (EW : D → Prop) : WS := wSeq (wAsg (wOwn2 "Ratio" isI f_Ratio___mul__ EW (wUn (selF "Move" "own_plus") (wVar 0)) (wBin fSub (wVar 1) (wC (.int 1)))) (gN 2)) (wSeq (wAsg (wLc (wIT (wTup (wCons (wUn (selF "Move" "own_low") (wVar 0)) (wCons (wUn (selF "Move" "own_high") (wVar 0)) (wNil))))) (.one 5) (wYes) (wMeth "Move" "held" f_Move_held (fun _ => False) (wVar 0) (wCons (wOwn2 "Ratio" (isC "Ratio") f_Ratio___add__ (fun _ => False) (wVar 5) (wVar 2)) (wNil))) [5]) (gSeqD 2 (gsN [3, 4]))) (wRet (wCall f_Move___init__ EW (wCons (wC (.int 1)) (wCons (wOwn2 "Ratio" isI f_Ratio___mul__ EW (wUn (selF "Move" "own_plus") (wVar 0)) (wVar 1)) (wCons (wVar 3) (wCons (wVar 4) (wNil))))))))
def ws_Move_done (EW : D → Prop) : WS := wSeq (wIf (wOr (wNot (wTst (wCall f_is_integer EW (wCons (wVar 1) (wNil))))) (wTst (wBin fLt (wVar 1) (wC (.int 1))))) (wRaise "InvalidCount" 1 ex_InvalidCount EW (wCons (wVar 1) (wNil))) (wNext)) (wSeq (wIf (wTst (wBin fEqI (wUn (selF "Move" "own_divisor") (wVar 0)) (wC (.int 1)))) (wRet (wMeth "Move" "added" f_Move_added EW (wVar 0) (wCons (wVar 1) (wNil)))) (wNext)) (wSeq (wIf (wTst (wBin fGt (wVar 1) (wC (.int 100)))) (wRaise "TooMany" 2 ex_TooMany EW (wCons (wC (.str "times")) (wCons (wC (.int 100)) (wNil)))) (wNext)) (wSeq (wAsg (wVar 0) (gN 2)) (wSeq (wFor (wIR1 (wCons (wBin fSub (wVar 1) (wC (.int 1))) (wNil))) (gN 3) (wAsg (wMeth "Move" "then" f_Move_then EW (wVar 2) (wCons (wVar 0) (wNil))) (gN 2))) (wRet (wVar 2))))))
def ws_Move___eq__ (EW : D → Prop) : WS := wSeq (wIf (wOr (wNot (wTst (wB (fIsi isiT) (wCons (wVar 1) (wCons (wC (.cls "Move")) (wNil)))))) (wOr (wTst (wBin fNeI (wUn (selF "Move" "own_divisor") (wVar 0)) (wUn (selF "Move" "own_divisor") (wVar 1)))) (wTst (wOwn2 "Ratio" (isC "Ratio") (fNotF f_Ratio___eq__) EW (wUn (selF "Move" "own_plus") (wVar 0)) (wUn (selF "Move" "own_plus") (wVar 1)))))) (wRet (wC (.bl false))) (wNext)) (wRet (wAndV (wOwn2 "Ratio" (isC "Ratio") f_Ratio___eq__ EW (wUn (selF "Move" "own_low") (wVar 0)) (wUn (selF "Move" "own_low") (wVar 1))) (wOwn2 "Ratio" (isC "Ratio") f_Ratio___eq__ EW (wUn (selF "Move" "own_high") (wVar 0)) (wUn (selF "Move" "own_high") (wVar 1)))))
theorem isi_of {d c : D} {b : Bool} {Q : D → Prop} (h : isiT d c = some b) (q : Q (.bl b)) : fIsi isiT [d, c] Q := by
  unfold fIsi
  show (match isiT d c with | some b => Q (.bl b) | none => False)
  rw [h]
  exact q
theorem an {a b : Prop} (x : a) (y : b) : a ∧ b := ⟨x, y⟩
theorem len2 {a b : D} : [a, b].length ≤ sizeLine := by
  rw [sizeLine_eq]
  exact (by decide : 2 ≤ 16777216)
theorem mk_isint {d : D} {b : Bool} {Q R : D → Prop} (h : intB d = some b) (q : Q (.bl b)) : f_is_integer [d] Q R := by
  unfold f_is_integer
  exact ⟨d, b, rfl, h, q⟩
theorem mk_isnum {d : D} {b : Bool} {Q R : D → Prop} (h : numB d = some b) (q : Q (.bl b)) : f_is_number [d] Q R := by
  unfold f_is_number
  exact ⟨d, b, rfl, h, q⟩
theorem mk_reqnum {d : D} {Q R : D → Prop} (h : numB d = some true) (q : Q .non) : f_require_number [d] Q R := by
  unfold f_require_number
  exact ⟨d, true, rfl, h, fun _ => q, fun z => nomatch z⟩
theorem mk_gcd {a b : Int} {Q R : D → Prop} (q : Q (.int (Nat.gcd a.natAbs b.natAbs : Nat))) : f_divisor_of [.int a, .int b] Q R := by
  unfold f_divisor_of
  exact ⟨a, b, rfl, q⟩
theorem mk_less {q r : Rat} {Q R : D → Prop} (h1 : Sz 4000 q) (h2 : Sz 4000 r) (k : Q (.bl (decide (q < r)))) : f_is_less [ro q, ro r] Q R := by
  unfold f_is_less
  exact ⟨q, r, rfl, h1, h2, k⟩
theorem mk_init2 {a b : Int} {Q R : D → Prop} (h1 : b ≠ 0) (h2 : a.natAbs < 2 ^ 8500) (h3 : b.natAbs < 2 ^ 8500) (k : Q (ro (Rat.divInt a b))) : f_Ratio___init___2 [.int a, .int b] Q R := by
  unfold f_Ratio___init___2 f_Ratio___init__
  exact ⟨a, b, rfl, h1, h2, h3, k⟩
theorem mk_init1 {a : Int} {Q R : D → Prop} (h2 : a.natAbs < 2 ^ 8500) (k : Q (ro (Rat.divInt a 1))) : f_Ratio___init___1 [.int a] Q R := by
  unfold f_Ratio___init___1 f_Ratio___init__
  exact ⟨a, 1, rfl, by decide, h2, Nat.one_lt_two_pow (by decide), k⟩
theorem mk_of {q : Rat} {d : D} {Q R : D → Prop} (h1 : Nm q d) (h2 : Sz 4000 q) (k : Q (ro q)) : f_Ratio_of [.cls "Ratio", d] Q R := by
  unfold f_Ratio_of
  exact ⟨q, d, rfl, h1, h2, k⟩
theorem mk_ext {q r : Rat} {a b : D} {w : Bool} {Q R : D → Prop} (h1 : Nm q a) (h2 : Nm r b) (h3 : Sz 4000 q) (h4 : Sz 4000 r) (k : Q (ro (if w = true then (if r < q then r else q) else (if q < r then r else q)))) : f_extreme_of [.tup [a, b], .bl w] Q R := by
  unfold f_extreme_of
  exact ⟨q, r, a, b, w, rfl, h1, h2, h3, h4, k⟩
theorem mk_least {q r : Rat} {a b : D} {Q R : D → Prop} (h1 : Nm q a) (h2 : Nm r b) (h3 : Sz 4000 q) (h4 : Sz 4000 r) (k : Q (ro (if r < q then r else q))) : starF 1 f_Ratio_least [.cls "Ratio", a, b] Q R := by
  unfold starF f_Ratio_least
  exact ⟨[.cls "Ratio"], [a, b], rfl, rfl, len2, q, r, a, b, rfl, h1, h2, h3, h4, k⟩
theorem mk_greatest {q r : Rat} {a b : D} {Q R : D → Prop} (h1 : Nm q a) (h2 : Nm r b) (h3 : Sz 4000 q) (h4 : Sz 4000 r) (k : Q (ro (if q < r then r else q))) : starF 1 f_Ratio_greatest [.cls "Ratio", a, b] Q R := by
  unfold starF f_Ratio_greatest
  exact ⟨[.cls "Ratio"], [a, b], rfl, rfl, len2, q, r, a, b, rfl, h1, h2, h3, h4, k⟩
theorem mk_add {q r : Rat} {d : D} {Q R : D → Prop} (h1 : Nm r d) (h2 : Sz 4000 q) (h3 : Sz 4000 r) (k : Q (ro (q + r))) : f_Ratio___add__ [ro q, d] Q R := by
  unfold f_Ratio___add__
  exact ⟨q, r, d, rfl, h1, h2, h3, k⟩
theorem mk_mul {q r : Rat} {d : D} {Q R : D → Prop} (h1 : Nm r d) (h2 : Sz 4000 q) (h3 : Sz 4000 r) (k : Q (ro (q * r))) : f_Ratio___mul__ [ro q, d] Q R := by
  unfold f_Ratio___mul__
  exact ⟨q, r, d, rfl, h1, h2, h3, k⟩
theorem mk_over {q r : Rat} {d : D} {Q R : D → Prop} (h1 : Nm r d) (h2 : Sz 4000 q) (h3 : Sz 4000 r) (h4 : r ≠ 0) (k : Q (ro (q / r))) : f_Ratio_over [ro q, d] Q R := by
  unfold f_Ratio_over
  exact ⟨q, r, d, rfl, h1, h2, h3, h4, k⟩
theorem mk_eq {q r : Rat} {Q R : D → Prop} (k : Q (.bl (decide (q = r)))) : f_Ratio___eq__ [ro q, ro r] Q R := by
  unfold f_Ratio___eq__
  exact ⟨q, r, rfl, k⟩
theorem mk_reqmv {d : D} {Q R : D → Prop} (h : isK d 3 = some true) (q : Q .non) : f_require_move [d] Q R := by
  unfold f_require_move
  exact ⟨d, true, rfl, h, fun _ => q, fun z => nomatch z⟩
theorem mk_minit {d : Int} {p l h : Rat} {dp dl dh : D} {Q R : D → Prop} (h1 : 1 ≤ d) (n1 : Nm p dp) (n2 : Nm l dl) (n3 : Nm h dh) (s1 : Sz 4000 p) (s2 : Sz 4000 l) (s3 : Sz 4000 h) (le : l ≤ h) (k : Q (mv d p l h)) : f_Move___init__ [.int d, dp, dl, dh] Q R := by
  unfold f_Move___init__
  exact ⟨d, p, l, h, dp, dl, dh, rfl, h1, n1, n2, n3, s1, s2, s3, le, k⟩
/-! sizes -/
theorem Sz.mono {m n : Nat} {q : Rat} (h : Sz m q) (hm : m ≤ n) : Sz n q := ⟨Nat.lt_of_lt_of_le h.1 (Nat.pow_le_pow_right (by decide) hm), Nat.lt_of_lt_of_le h.2 (Nat.pow_le_pow_right (by decide) hm)⟩
theorem sz_mulW {a b : Int} {m n : Nat} (ha : a.natAbs < 2 ^ m) (hb : b.natAbs < 2 ^ n) (h0 : 0 < m) (h1 : 0 < n) (h : m + n ≤ 1000000) : CMulW a b := wide_mul ha hb h0 h1 h
theorem sz_div {a b : Int} {n : Nat} (h : 0 < b) (hb : b.natAbs < 2 ^ n) (h0 : 0 < n) (h9 : n ≤ 9000) : CDivW a b := wide_div h hb h0 h9
theorem nm_num {q : Rat} {d : D} (h : Nm q d) : numB d = some true := by
  rcases h with rfl | ⟨rfl, _⟩ <;> rfl
/-! the defs -/
theorem pk_is_integer {d : D} {b : Bool} (hb : intB d = some b) : ∃ a c, isiT d (.ty "int") = some a ∧ isiT d (.ty "bool") = some c ∧ b = (a && !c) := by
  unfold intB at hb
  split at hb
  · rename_i a c h1 h2
    exact ⟨a, c, h1, h2, (Option.some.inj hb).symm⟩
  · cases hb
theorem pure_is_integer (ds : List D) (Q : D → Prop) (EW : D → Prop) (h : f_is_integer ds Q EW) : ws_is_integer EW { nx := fun _ => Q .non, rt := Q } (startD ["value"] ds) := by
  unfold f_is_integer at h
  obtain ⟨d, b, rfl, hb, hQ⟩ := h
  obtain ⟨a, c, h1, h2, rfl⟩ := pk_is_integer hb
  refine isi_of (d := d) (c := .ty "int") h1 ?_
  cases a with
  | false => exact hQ
  | true => exact isi_of (d := d) (c := .ty "bool") h2 hQ
theorem pure_is_number (ds : List D) (Q : D → Prop) (EW : D → Prop) (h : f_is_number ds Q EW) : ws_is_number EW { nx := fun _ => Q .non, rt := Q } (startD ["value"] ds) := by
  unfold f_is_number at h
  obtain ⟨d, b, rfl, hb, hQ⟩ := h
  unfold numB at hb
  split at hb
  · rename_i a c h1 h2
    cases hb
    refine mk_isint (d := d) h1 ?_
    cases a with
    | true => exact hQ
    | false => exact isi_of (d := d) (c := .cls "Ratio") h2 hQ
  · cases hb
theorem pure_require_number (ds : List D) (Q : D → Prop) (EW : D → Prop) (h : f_require_number ds Q EW) : ws_require_number EW { nx := fun _ => Q .non, rt := Q } (startD ["value"] ds) := by
  unfold f_require_number at h
  obtain ⟨d, b, rfl, hb, h1, h2⟩ := h
  refine mk_isnum (d := d) hb ?_
  cases b with
  | true => exact h1 rfl
  | false => exact an rfl (h2 rfl)
theorem pure_divisor_of (ds : List D) (Q : D → Prop) (EW : D → Prop) (h : f_divisor_of ds Q EW) : ws_divisor_of EW { nx := fun _ => Q .non, rt := Q } (startD ["one", "other"] ds) := by
  unfold f_divisor_of at h
  obtain ⟨a, b, rfl, hQ⟩ := h
  have e : ∀ i : Int, (if i < 0 then -i else i) = (i.natAbs : Int) := fun i => by split <;> omega
  show wWhile _ _ { nx := fun ρ => wRet (wVar 0) { nx := fun _ => Q .non, rt := Q } ρ, rt := Q } [.val (.int (if a < 0 then -a else a)), .val (.int (if b < 0 then -b else b))]
  rw [e, e]
  refine ⟨fun m ρ => ∃ x y : Nat, ρ = [.val (.int (x : Int)), .val (.int (y : Int))] ∧ y = m ∧ Nat.gcd x y = Nat.gcd a.natAbs b.natAbs, ⟨_, _, _, rfl, rfl, rfl⟩, ?_⟩
  rintro m ρ ⟨x, y, rfl, rfl, hg⟩
  show (match decide ((0 : Int) < (y : Int)) with
    | true => _
    | false => _)
  by_cases h0 : 0 < y
  · rw [decide_eq_true (show (0 : Int) < (y : Int) by omega)]
    refine ⟨fun ρ2 => ρ2 = [.val (.int (y : Int)), .val (.int ((x % y : Nat) : Int))], ?_, ?_⟩
    · rintro ρ2 rfl
      exact ⟨_, Nat.mod_lt x h0, y, x % y, rfl, rfl, by rw [← hg, Nat.gcd_comm x y, Nat.gcd_rec y x, Nat.gcd_comm]⟩
    · refine an (show (0 : Int) < (y : Int) by omega) ?_
      show [S.val (.int (y : Int)), .val (.int ((x : Int) % (y : Int)))] = _
      rfl
  · rw [decide_eq_false (show ¬ (0 : Int) < (y : Int) by omega)]
    have : y = 0 := by omega
    subst this
    rw [Nat.gcd_zero_right] at hg
    show Q (.int (x : Int))
    rw [hg]
    exact hQ
theorem pure_is_less (ds : List D) (Q : D → Prop) (EW : D → Prop) (h : f_is_less ds Q EW) : ws_is_less EW { nx := fun _ => Q .non, rt := Q } (startD ["one", "other"] ds) := by
  unfold f_is_less at h
  obtain ⟨q, r, rfl, h1, h2, hQ⟩ := h
  refine an rfl (an rfl (an (sz_mulW h1.1 (show ((r.den : Nat) : Int).natAbs < 2 ^ 4000 from h2.2) (by decide) (by decide) (by decide)) (an rfl (an rfl (an (sz_mulW h2.1 (show ((q.den : Nat) : Int).natAbs < 2 ^ 4000 from h1.2) (by decide) (by decide) (by decide)) ?_)))))
  show Q (.bl (decide (q.num * (r.den : Int) < r.num * (q.den : Int))))
  rw [show decide (q.num * (r.den : Int) < r.num * (q.den : Int)) = decide (q < r) from decide_eq_decide.mpr (Rat.lt_iff q r).symm]
  exact hQ
theorem ixt {ds : List D} {i : Int} {d : D} {Q : D → Prop} (h : atI ds i = some d) (q : Q d) : fIx (.tup ds) (.int i) Q := by
  unfold fIx
  show (match atI ds i with | some d => Q d | none => False)
  rw [h]
  exact q
theorem ixl {ds : List D} {i : Int} {d : D} {Q : D → Prop} (h : atI ds i = some d) (q : Q d) : fIx (.lst ds) (.int i) Q := by
  unfold fIx
  show (match atI ds i with | some d => Q d | none => False)
  rw [h]
  exact q
theorem if_no {c : WT} {u v : WS} {E : EndsD} {ρ : List S} (hc : c ρ = fun Q => Q false) (h : v E ρ) : wIf c u v E ρ := by
  unfold wIf
  rw [hc]
  exact h
theorem if_yes {c : WT} {u v : WS} {E : EndsD} {ρ : List S} (hc : c ρ = fun Q => Q true) (h : u E ρ) : wIf c u v E ρ := by
  unfold wIf
  rw [hc]
  exact h
/-! lowest terms -/
theorem div_exact {a s : Int} (h : s ∣ a) : a.fdiv s = a / s := Int.fdiv_eq_ediv_of_dvd h
theorem lowest {a b : Int} (hb : b ≠ 0) : ∃ s : Int, s = (if 0 < b then (Nat.gcd a.natAbs b.natAbs : Int) else -(Nat.gcd a.natAbs b.natAbs : Int)) ∧ s ≠ 0 ∧ s.natAbs ≤ b.natAbs ∧ a.fdiv s = (Rat.divInt a b).num ∧ b.fdiv s = ((Rat.divInt a b).den : Int) := by
  refine ⟨_, rfl, ?_⟩
  have hg : 0 < Nat.gcd a.natAbs b.natAbs := Nat.gcd_pos_of_pos_right _ (by omega)
  have hle : Nat.gcd a.natAbs b.natAbs ≤ b.natAbs := Nat.le_of_dvd (by omega) (Nat.gcd_dvd_right _ _)
  have d1 : ((Nat.gcd a.natAbs b.natAbs : Nat) : Int) ∣ a := Int.ofNat_dvd_left.mpr (Nat.gcd_dvd_left _ _)
  have d2 : ((Nat.gcd a.natAbs b.natAbs : Nat) : Int) ∣ b := Int.ofNat_dvd_left.mpr (Nat.gcd_dvd_right _ _)
  have eg : b.gcd a = Nat.gcd a.natAbs b.natAbs := by rw [Int.gcd_comm]; rfl
  rw [Rat.num_divInt, Rat.den_divInt, if_neg hb, eg]
  generalize hgg : Nat.gcd a.natAbs b.natAbs = g at *
  by_cases h : 0 < b
  · rw [if_pos h]
    refine ⟨by omega, by omega, ?_, ?_⟩
    · rw [div_exact d1, Int.sign_eq_one_of_pos h, Int.one_mul]
    · rw [div_exact d2, Int.natCast_ediv]
      have : ((b.natAbs : Nat) : Int) = b := by omega
      rw [this]
  · rw [if_neg h]
    have hs : b.sign = -1 := Int.sign_eq_neg_one_of_neg (by omega)
    refine ⟨by omega, by omega, ?_, ?_⟩
    · rw [div_exact (Int.neg_dvd.mpr d1), hs, Int.ediv_neg, Int.neg_one_mul, Int.neg_ediv_of_dvd d1]
    · rw [div_exact (Int.neg_dvd.mpr d2), Int.ediv_neg, Int.natCast_ediv]
      have : ((b.natAbs : Nat) : Int) = -b := by omega
      rw [this, Int.neg_ediv_of_dvd d2]
theorem len_Ratio___init__ : ∀ ds Q R, f_Ratio___init__ ds Q R → ds.length + 1 = 3 := by
  intro ds Q R h
  unfold f_Ratio___init__ at h
  obtain ⟨a, b, rfl, _⟩ := h
  rfl
theorem pure_Ratio___init__ (ds : List D) (x : Addr) (Q : D → Prop) (EW : D → Prop) (h : f_Ratio___init__ ds Q EW) : ws_Ratio___init__ EW { nx := fun ρ => ∃ fs, ρ[0]? = some (.new "Ratio" x fs) ∧ Q (.obj "Ratio" fs), rt := fun _ => False } (.new "Ratio" x [] :: startD ((["self", "top", "bottom", "shared"] : List Str).drop 1) ds) := by
  unfold f_Ratio___init__ at h
  obtain ⟨a, b, rfl, hb, h1, h2, hQ⟩ := h
  obtain ⟨s, hs, s0, sle, e1, e2⟩ := lowest (a := a) hb
  refine mk_isint (d := .int a) (b := true) rfl ?_
  refine mk_isint (d := .int b) (b := true) rfl ?_
  show (match decide (b = 0) with
    | true => _
    | false => _)
  rw [decide_eq_false hb]
  have sz : s.natAbs.log2 < 9000 := by
    have := PySem.Flt.log2_lt_of (k := 8500) (by decide) (Nat.lt_of_le_of_lt sle h2)
    omega
  have fin : ∀ s', s' = s → wSeq (wSetF "Ratio" "own_top" 0 (wBin fDiv (wVar 1) (wVar 3))) (wSetF "Ratio" "own_bottom" 0 (wBin fDiv (wVar 2) (wVar 3))) { nx := fun ρ => ∃ fs, ρ[0]? = some (.new "Ratio" x fs) ∧ Q (.obj "Ratio" fs), rt := fun _ => False } [.new "Ratio" x [], .val (.int a), .val (.int b), .val (.int s')] := by
    rintro s' rfl
    refine an (an s0 sz) (an rfl (an rfl (an (show 0 < 1000 by decide) ?_)))
    refine an (an s0 sz) (an rfl (an rfl (an (show 1 < 1000 by decide) ?_)))
    refine ⟨_, rfl, ?_⟩
    show Q (.obj "Ratio" [("own_top", .int (a.fdiv s')), ("own_bottom", .int (b.fdiv s'))])
    rw [e1, e2]
    exact hQ
  show (match decide (0 < b) with
    | true => _
    | false => _)
  by_cases hp : 0 < b
  · rw [decide_eq_true hp]
    rw [if_pos hp] at hs
    exact mk_gcd (fin _ hs.symm)
  · rw [decide_eq_false hp]
    rw [if_neg hp] at hs
    exact mk_gcd (fin _ hs.symm)
theorem pure_Ratio_of (ds : List D) (Q : D → Prop) (EW : D → Prop) (h : f_Ratio_of ds Q EW) : ws_Ratio_of EW { nx := fun _ => Q .non, rt := Q } (startD ["cls", "number"] ds) := by
  unfold f_Ratio_of at h
  obtain ⟨q, d, rfl, hn, hz, hQ⟩ := h
  refine mk_reqnum (nm_num hn) ?_
  rcases hn with rfl | ⟨rfl, hd⟩
  · exact mk_isint (d := ro q) (b := false) rfl hQ
  · refine mk_isint (d := .int q.num) (b := true) rfl ?_
    refine mk_init1 (Nat.lt_of_lt_of_le hz.1 (Nat.pow_le_pow_right (by decide) (by decide))) ?_
    show Q (ro (Rat.divInt q.num 1))
    have e : Rat.divInt q.num ((q.den : Nat) : Int) = q := Rat.num_divInt_den q
    rw [hd] at e
    rw [show Rat.divInt q.num 1 = q from e]
    exact hQ
theorem pure_extreme_of (ds : List D) (Q : D → Prop) (EW : D → Prop) (h : f_extreme_of ds Q EW) : ws_extreme_of EW { nx := fun _ => Q .non, rt := Q } (startD ["numbers", "is_least", "found", "number", "ratio"] ds) := by
  unfold f_extreme_of at h
  obtain ⟨q, r, a, b, w, rfl, n1, n2, z1, z2, hQ⟩ := h
  refine if_no (by rfl) ?_
  refine an rfl (ixt (ds := [a, b]) (i := 0) (d := a) rfl (mk_of n1 z1 ?_))
  have irr : ∀ q : Rat, ¬ q < q := fun q => Rat.lt_irrefl
  refine ⟨fun i ρ => ∃ z e, (i = 0 → z = q) ∧ (i = 1 → z = q) ∧ (2 ≤ i → z = (if w = true then (if r < q then r else q) else (if q < r then r else q))) ∧ ρ = [.val (.tup [a, b]), .val (.bl w), .val (ro z), e, (ρ[4]?).getD .no] ∧ i ≤ 2, ⟨q, .no, fun _ => rfl, fun _ => rfl, fun z => by omega, rfl, by omega⟩, ?_, ?_⟩
  · rintro i d ρ hi ⟨z, e, e0, e1, e2, hρ, hl⟩
    rw [hρ]
    match i, hi with
    | 0, hi =>
      cases hi
      rw [e0 rfl] at *
      refine an rfl (mk_of n1 z1 ?_)
      cases w with
      | true =>
        refine mk_less z1 z1 ?_
        rw [decide_eq_false (irr q)]
        exact ⟨q, _, fun z => by omega, fun _ => rfl, fun z => by omega, rfl, by omega⟩
      | false =>
        refine mk_less z1 z1 ?_
        rw [decide_eq_false (irr q)]
        exact ⟨q, _, fun z => by omega, fun _ => rfl, fun z => by omega, rfl, by omega⟩
    | 1, hi =>
      cases hi
      rw [e1 rfl] at *
      refine an rfl (mk_of n2 z2 ?_)
      cases w with
      | true =>
        refine mk_less z2 z1 ?_
        by_cases hh : r < q
        · rw [decide_eq_true hh]
          exact ⟨r, _, fun z => by omega, fun z => by omega, fun _ => by rw [if_pos rfl, if_pos hh], rfl, by omega⟩
        · rw [decide_eq_false hh]
          exact ⟨q, _, fun z => by omega, fun z => by omega, fun _ => by rw [if_pos rfl, if_neg hh], rfl, by omega⟩
      | false =>
        refine mk_less z1 z2 ?_
        by_cases hh : q < r
        · rw [decide_eq_true hh]
          exact ⟨r, _, fun z => by omega, fun z => by omega, fun _ => by rw [if_neg Bool.false_ne_true, if_pos hh], rfl, by omega⟩
        · rw [decide_eq_false hh]
          exact ⟨q, _, fun z => by omega, fun z => by omega, fun _ => by rw [if_neg Bool.false_ne_true, if_neg hh], rfl, by omega⟩
    | i + 2, hi => simp at hi
  · rintro ρ ⟨z, e, e0, e1, e2, hρ, hl⟩
    rw [hρ, e2 (by simp)]
    exact hQ
theorem pure_Ratio_least (ds : List D) (Q : D → Prop) (EW : D → Prop) (h : f_Ratio_least ds Q EW) : ws_Ratio_least EW { nx := fun _ => Q .non, rt := Q } (startD ["cls", "numbers"] ds) := by
  unfold f_Ratio_least at h
  obtain ⟨q, r, a, b, rfl, n1, n2, z1, z2, hQ⟩ := h
  exact mk_ext n1 n2 z1 z2 hQ
theorem pure_Ratio_greatest (ds : List D) (Q : D → Prop) (EW : D → Prop) (h : f_Ratio_greatest ds Q EW) : ws_Ratio_greatest EW { nx := fun _ => Q .non, rt := Q } (startD ["cls", "numbers"] ds) := by
  unfold f_Ratio_greatest at h
  obtain ⟨q, r, a, b, rfl, n1, n2, z1, z2, hQ⟩ := h
  exact mk_ext n1 n2 z1 z2 hQ
/-! sums, products, quotients by their parts -/
theorem den_ne (q : Rat) : ((q.den : Nat) : Int) ≠ 0 := by have := q.den_pos; omega
theorem q_of (q : Rat) : q = Rat.divInt q.num (q.den : Int) := (Rat.num_divInt_den q).symm
theorem q_add (q r : Rat) : q + r = Rat.divInt (q.num * (r.den : Int) + r.num * (q.den : Int)) ((q.den : Int) * (r.den : Int)) := by
  conv => lhs; rw [q_of q, q_of r]
  exact Rat.divInt_add_divInt _ _ (den_ne q) (den_ne r)
theorem q_mul (q r : Rat) : q * r = Rat.divInt (q.num * r.num) ((q.den : Int) * (r.den : Int)) := by
  conv => lhs; rw [q_of q, q_of r]
  exact Rat.divInt_mul_divInt _ _
theorem num_ne {r : Rat} (h : r ≠ 0) : r.num ≠ 0 := fun z => h (Rat.num_eq_zero.mp z)
theorem q_div (q r : Rat) : q / r = Rat.divInt (q.num * (r.den : Int)) ((q.den : Int) * r.num) := by
  rw [Rat.div_def, Rat.inv_def]
  conv => lhs; rw [q_of q]
  exact Rat.divInt_mul_divInt _ _
theorem sz_divInt {a b : Int} {n : Nat} (hb : b ≠ 0) (h1 : a.natAbs < 2 ^ n) (h2 : b.natAbs < 2 ^ n) : Sz n (Rat.divInt a b) := by
  obtain ⟨s, _, s0, _, e1, e2⟩ := lowest (a := a) hb
  refine ⟨?_, ?_⟩
  · rw [← e1]
    refine Nat.lt_of_le_of_lt ?_ h1
    have hd : s ∣ a := by
      rename_i hs _
      rw [hs]
      split
      · exact Int.ofNat_dvd_left.mpr (Nat.gcd_dvd_left _ _)
      · exact Int.neg_dvd.mpr (Int.ofNat_dvd_left.mpr (Nat.gcd_dvd_left _ _))
    rw [div_exact hd, Int.natAbs_ediv_of_dvd hd]
    exact Nat.div_le_self _ _
  · have hd : s ∣ b := by
      rename_i hs _
      rw [hs]
      split
      · exact Int.ofNat_dvd_left.mpr (Nat.gcd_dvd_right _ _)
      · exact Int.neg_dvd.mpr (Int.ofNat_dvd_left.mpr (Nat.gcd_dvd_right _ _))
    have : ((Rat.divInt a b).den : Int).natAbs ≤ b.natAbs := by
      rw [← e2, div_exact hd, Int.natAbs_ediv_of_dvd hd]
      exact Nat.div_le_self _ _
    have e : (((Rat.divInt a b).den : Nat) : Int).natAbs = (Rat.divInt a b).den := Int.natAbs_natCast _
    rw [e] at this
    exact Nat.lt_of_le_of_lt this h2
theorem na_mul {a b : Int} {m n : Nat} (ha : a.natAbs < 2 ^ m) (hb : b.natAbs < 2 ^ n) : (a * b).natAbs < 2 ^ (m + n) := wide_lt ha hb
theorem na_add {a b : Int} {m : Nat} (ha : a.natAbs < 2 ^ m) (hb : b.natAbs < 2 ^ m) : (a + b).natAbs < 2 ^ (m + 1) := by
  have := Nat.pow_succ 2 m
  omega
theorem na_le {a : Int} {m n : Nat} (ha : a.natAbs < 2 ^ m) (h : m ≤ n) : a.natAbs < 2 ^ n := Nat.lt_of_lt_of_le ha (Nat.pow_le_pow_right (by decide) h)
theorem na_den {q : Rat} {n : Nat} (h : Sz n q) : ((q.den : Nat) : Int).natAbs < 2 ^ n := h.2
theorem sz_add {q r : Rat} {m n : Nat} (hq : Sz m q) (hr : Sz n r) : Sz (m + n + 1) (q + r) := by
  rw [q_add]
  refine sz_divInt (Int.mul_ne_zero (den_ne q) (den_ne r)) (na_add (na_mul hq.1 (na_den hr)) ?_) (na_le (na_mul (na_den hq) (na_den hr)) (by omega))
  rw [Nat.add_comm]
  exact na_mul hr.1 (na_den hq)
theorem sz_mul {q r : Rat} {m n : Nat} (hq : Sz m q) (hr : Sz n r) : Sz (m + n) (q * r) := by
  rw [q_mul]
  exact sz_divInt (Int.mul_ne_zero (den_ne q) (den_ne r)) (na_mul hq.1 hr.1) (na_mul (na_den hq) (na_den hr))
theorem sz_int {d : Int} {n : Nat} (h : d.natAbs < 2 ^ n) (h0 : 0 < n) : Sz n (d : Rat) := ⟨by rw [Rat.num_intCast]; exact h, by rw [Rat.den_intCast]; exact Nat.one_lt_two_pow (by omega)⟩
theorem sz_divR {q r : Rat} {m n : Nat} (hq : Sz m q) (hr : Sz n r) (h : r ≠ 0) : Sz (m + n) (q / r) := by
  rw [q_div]
  exact sz_divInt (Int.mul_ne_zero (den_ne q) (num_ne h)) (na_mul hq.1 (na_den hr)) (na_mul (na_den hq) hr.1)
theorem sz_neg {q : Rat} {n : Nat} (h : Sz n q) : Sz n (-q) := ⟨by show (-q.num).natAbs < _; rw [Int.natAbs_neg]; exact h.1, h.2⟩
theorem mulW4 {a b : Int} (ha : a.natAbs < 2 ^ 4000) (hb : b.natAbs < 2 ^ 4000) : CMulW a b := sz_mulW ha hb (by decide) (by decide) (by decide)
theorem pure_Ratio___add__ (ds : List D) (Q : D → Prop) (EW : D → Prop) (h : f_Ratio___add__ ds Q EW) : ws_Ratio___add__ EW { nx := fun _ => Q .non, rt := Q } (startD ["self", "other", "beside", "top"] ds) := by
  unfold f_Ratio___add__ at h
  obtain ⟨q, r, d, rfl, n1, z1, z2, hQ⟩ := h
  refine an rfl (mk_of n1 z2 ?_)
  refine an rfl (an rfl (an (mulW4 z1.1 (na_den z2)) (an rfl (an rfl (an (mulW4 z2.1 (na_den z1)) ?_)))))
  refine an rfl (an rfl (an (mulW4 (na_den z1) (na_den z2)) ?_))
  refine mk_init2 (Int.mul_ne_zero (den_ne q) (den_ne r)) (na_le (na_add (na_mul z1.1 (na_den z2)) (na_mul z2.1 (na_den z1))) (by decide)) (na_le (na_mul (na_den z1) (na_den z2)) (by decide)) ?_
  rw [← q_add]
  exact hQ
theorem pure_Ratio___mul__ (ds : List D) (Q : D → Prop) (EW : D → Prop) (h : f_Ratio___mul__ ds Q EW) : ws_Ratio___mul__ EW { nx := fun _ => Q .non, rt := Q } (startD ["self", "other", "beside"] ds) := by
  unfold f_Ratio___mul__ at h
  obtain ⟨q, r, d, rfl, n1, z1, z2, hQ⟩ := h
  refine an rfl (mk_of n1 z2 ?_)
  refine an rfl (an rfl (an (mulW4 z1.1 z2.1) (an rfl (an rfl (an (mulW4 (na_den z1) (na_den z2)) ?_)))))
  refine mk_init2 (Int.mul_ne_zero (den_ne q) (den_ne r)) (na_le (na_mul z1.1 z2.1) (by decide)) (na_le (na_mul (na_den z1) (na_den z2)) (by decide)) ?_
  rw [← q_mul]
  exact hQ
theorem pure_Ratio_over (ds : List D) (Q : D → Prop) (EW : D → Prop) (h : f_Ratio_over ds Q EW) : ws_Ratio_over EW { nx := fun _ => Q .non, rt := Q } (startD ["self", "other", "beside"] ds) := by
  unfold f_Ratio_over at h
  obtain ⟨q, r, d, rfl, n1, z1, z2, h0, hQ⟩ := h
  refine an rfl (mk_of n1 z2 ?_)
  refine an rfl ?_
  show (match decide (r.num = 0) with
    | true => _
    | false => _)
  rw [decide_eq_false (num_ne h0)]
  refine an rfl (an rfl (an (mulW4 z1.1 (na_den z2)) (an rfl (an rfl (an (mulW4 (na_den z1) z2.1) ?_)))))
  refine mk_init2 (Int.mul_ne_zero (den_ne q) (num_ne h0)) (na_le (na_mul z1.1 (na_den z2)) (by decide)) (na_le (na_mul (na_den z1) z2.1) (by decide)) ?_
  rw [← q_div]
  exact hQ
theorem rat_eq {q r : Rat} : (q = r) ↔ (q.num = r.num ∧ (q.den : Int) = (r.den : Int)) := ⟨fun h => by rw [h]; exact ⟨rfl, rfl⟩, fun ⟨h1, h2⟩ => Rat.ext h1 (Int.ofNat.inj h2)⟩
theorem pure_Ratio___eq__ (ds : List D) (Q : D → Prop) (EW : D → Prop) (h : f_Ratio___eq__ ds Q EW) : ws_Ratio___eq__ EW { nx := fun _ => Q .non, rt := Q } (startD ["self", "other"] ds) := by
  unfold f_Ratio___eq__ at h
  obtain ⟨q, r, rfl, hQ⟩ := h
  refine isi_of (d := ro r) (c := .cls "Ratio") (b := true) rfl ?_
  refine an rfl (an rfl ?_)
  show (match D.bl (decide (q.num = r.num)) with
    | .bl true => _
    | .bl false => _
    | _ => False)
  by_cases h1 : q.num = r.num
  · rw [decide_eq_true h1]
    refine an rfl (an rfl ?_)
    show Q (.bl (decide ((q.den : Int) = (r.den : Int))))
    rw [show decide ((q.den : Int) = (r.den : Int)) = decide (q = r) from decide_eq_decide.mpr ⟨fun z => rat_eq.mpr ⟨h1, z⟩, fun z => (rat_eq.mp z).2⟩]
    exact hQ
  · rw [decide_eq_false h1]
    show Q (.bl false)
    rw [decide_eq_false (fun z => h1 (rat_eq.mp z).1)] at hQ
    exact hQ
theorem pure_require_move (ds : List D) (Q : D → Prop) (EW : D → Prop) (h : f_require_move ds Q EW) : ws_require_move EW { nx := fun _ => Q .non, rt := Q } (startD ["value"] ds) := by
  unfold f_require_move at h
  obtain ⟨d, b, rfl, hb, h1, h2⟩ := h
  refine isi_of (d := d) (c := .cls "Move") hb ?_
  cases b with
  | true => exact h1 rfl
  | false => exact an rfl (h2 rfl)
theorem mk_free {d : Int} {p l h x : Rat} {e : D} {Q R : D → Prop} (n : Nm x e) (h1 : 1 ≤ d) (h2 : d.natAbs < 2 ^ 800) (z1 : Sz 1900 p) (z2 : Sz 1900 x) (k : Q (ro ((x + p) / (d : Rat)))) : f_Move_free [mv d p l h, e] Q R := by
  unfold f_Move_free
  exact ⟨d, p, l, h, x, e, rfl, n, h1, h2, z1, z2, k⟩
theorem mk_held {d : Int} {p l h x : Rat} {e : D} {Q R : D → Prop} (n : Nm x e) (z1 : Sz 4000 l) (z2 : Sz 4000 h) (z3 : Sz 4000 x) (k : Q (ro (hold l h x))) : f_Move_held [mv d p l h, e] Q R := by
  unfold f_Move_held
  exact ⟨d, p, l, h, x, e, rfl, n, z1, z2, z3, k⟩
theorem mk_at {d : Int} {p l h x : Rat} {e : D} {Q R : D → Prop} (n : Nm x e) (o : MOk d p l h) (z : Sz 1900 x) (k : Q (ro (mAt d p l h x))) : f_Move_at [mv d p l h, e] Q R := by
  unfold f_Move_at
  exact ⟨d, p, l, h, x, e, rfl, n, o, z, k⟩
theorem mk_added {p l h : Rat} {n : Int} {Q R : D → Prop} (o : MOk 1 p l h) (h1 : 1 ≤ n) (h2 : n.natAbs < 2 ^ 300) (k : Q (mv 1 (p * (n : Rat)) (hold l h (l + p * ((n - 1 : Int) : Rat))) (hold l h (h + p * ((n - 1 : Int) : Rat))))) : f_Move_added [mv 1 p l h, .int n] Q R := by
  unfold f_Move_added
  exact ⟨p, l, h, n, rfl, o, h1, h2, k⟩
theorem mk_then {m n : MvR} {Q R : D → Prop} (hm : m.Ok) (hn : n.Ok) (k : Q (m.th n).D) : f_Move_then [m.D, n.D] Q R := by
  unfold f_Move_then
  exact ⟨m.d, m.p, m.l, m.h, n.D, true, rfl, rfl, (fun z => nomatch z), fun _ => ⟨n.d, n.p, n.l, n.h, rfl, hm, hn, k⟩⟩
theorem sz_hold {l h x : Rat} {n : Nat} (h1 : Sz n l) (h2 : Sz n h) (h3 : Sz n x) : Sz n (hold l h x) := by
  unfold hold
  dsimp only
  split <;> split <;> assumption
theorem hold_le {l h x y : Rat} (lh : l ≤ h) (xy : x ≤ y) : hold l h x ≤ hold l h y := by
  unfold hold
  dsimp only
  grind
theorem pure_Move___init__ (ds : List D) (x : Addr) (Q : D → Prop) (EW : D → Prop) (h : f_Move___init__ ds Q EW) : ws_Move___init__ EW { nx := fun ρ => ∃ fs, ρ[0]? = some (.new "Move" x fs) ∧ Q (.obj "Move" fs), rt := fun _ => False } (.new "Move" x [] :: startD ((["self", "divisor", "plus", "low", "high", "part", "number"] : List Str).drop 1) ds) := by
  unfold f_Move___init__ at h
  obtain ⟨d, p, l, h, dp, dl, dh, rfl, d1, n1, n2, n3, s1, s2, s3, le, hQ⟩ := h
  refine mk_isint (d := .int d) (b := true) rfl ?_
  show (match decide (d < 1) with
    | true => _
    | false => _)
  rw [decide_eq_false (by omega)]
  have tl : ∀ a b : D, ([a, b] : List D).length ≤ sizeLine := fun _ _ => len2
  have t3 : ∀ a b c : D, ([a, b, c] : List D).length ≤ sizeLine := fun _ _ _ => by
    rw [sizeLine_eq]
    exact (by decide : 3 ≤ 16777216)
  refine an (tl _ _) (an (tl _ _) (an (tl _ _) (an (t3 _ _ _) ?_)))
  refine ⟨fun i ρ => ∃ e f, ρ = [.new "Move" x [], .val (.int d), .val dp, .val dl, .val dh, e, f], ⟨_, _, rfl⟩, ?_, ?_⟩
  · rintro i q ρ hi ⟨e, f, rfl⟩
    match i, hi with
    | 0, hi =>
      cases hi
      refine an rfl (mk_isnum (nm_num n1) ⟨_, _, rfl⟩)
    | 1, hi =>
      cases hi
      refine an rfl (mk_isnum (nm_num n2) ⟨_, _, rfl⟩)
    | 2, hi =>
      cases hi
      refine an rfl (mk_isnum (nm_num n3) ⟨_, _, rfl⟩)
    | i + 3, hi => simp at hi
  · rintro ρ ⟨e, f, rfl⟩
    refine an rfl (mk_of n3 s3 (an rfl (mk_of n2 s2 (mk_less s3 s2 ?_))))
    show (match decide (h < l) with
      | true => _
      | false => _)
    rw [decide_eq_false (Rat.not_lt.mpr le)]
    refine an rfl (an rfl (an (show 0 < 1000 by decide) ?_))
    refine an rfl (mk_of n1 s1 (an rfl (an rfl (an (show 1 < 1000 by decide) ?_))))
    refine an rfl (mk_of n2 s2 (an rfl (an rfl (an (show 2 < 1000 by decide) ?_))))
    refine an rfl (mk_of n3 s3 (an rfl (an rfl (an (show 3 < 1000 by decide) ?_))))
    exact ⟨_, rfl, hQ⟩
theorem nm_ro (q : Rat) : Nm q (ro q) := .inl rfl
theorem nm_i (i : Int) : Nm (i : Rat) (.int i) := .inr ⟨by rw [Rat.num_intCast], Rat.den_intCast i⟩
theorem cast_ne {d : Int} (h : 1 ≤ d) : (d : Rat) ≠ 0 := fun z => by
  have := Rat.intCast_eq_zero_iff.mp z
  omega
theorem pure_Move_free (ds : List D) (Q : D → Prop) (EW : D → Prop) (h : f_Move_free ds Q EW) : ws_Move_free EW { nx := fun _ => Q .non, rt := Q } (startD ["self", "number"] ds) := by
  unfold f_Move_free at h
  obtain ⟨d, p, l, h, x, e, rfl, n1, h1, h2, z1, z2, hQ⟩ := h
  refine an rfl (mk_of n1 (z2.mono (by decide)) ?_)
  refine an rfl (an rfl (an rfl (mk_add (nm_ro p) (z2.mono (by decide)) (z1.mono (by decide)) ?_)))
  refine an rfl (an rfl (an rfl ?_))
  exact mk_over (nm_i d) ((sz_add z2 z1).mono (by decide)) ((sz_int h2 (by decide)).mono (by decide)) (cast_ne h1) hQ
theorem pure_Move_held (ds : List D) (Q : D → Prop) (EW : D → Prop) (h : f_Move_held ds Q EW) : ws_Move_held EW { nx := fun _ => Q .non, rt := Q } (startD ["self", "number"] ds) := by
  unfold f_Move_held at h
  obtain ⟨d, p, l, h, x, e, rfl, n1, z1, z2, z3, hQ⟩ := h
  refine an rfl (an rfl (an rfl (an rfl ?_)))
  refine mk_greatest (nm_ro l) n1 z1 z3 ?_
  refine mk_least (nm_ro h) (nm_ro _) z2 (by split <;> assumption) ?_
  exact hQ
theorem sz_free {d : Int} {p x : Rat} {m n k : Nat} (hp : Sz m p) (hx : Sz n x) (h1 : 1 ≤ d) (hd : d.natAbs < 2 ^ k) (hk : 0 < k) : Sz (n + m + 1 + k) ((x + p) / (d : Rat)) := sz_divR (sz_add hx hp) (sz_int hd hk) (cast_ne h1)
theorem pure_Move_at (ds : List D) (Q : D → Prop) (EW : D → Prop) (h : f_Move_at ds Q EW) : ws_Move_at EW { nx := fun _ => Q .non, rt := Q } (startD ["self", "number"] ds) := by
  unfold f_Move_at at h
  obtain ⟨d, p, l, h, x, e, rfl, n1, o, z, hQ⟩ := h
  refine mk_reqnum (nm_num n1) ?_
  refine an rfl (an rfl (an rfl (an rfl ?_)))
  refine mk_free n1 o.d1 o.ds (o.ps.mono (by decide)) z ?_
  exact mk_held (nm_ro _) (o.ls.mono (by decide)) (o.hs.mono (by decide)) ((sz_free (o.ps) z o.d1 o.ds (by decide)).mono (by decide)) hQ
theorem pure_Move_then (ds : List D) (Q : D → Prop) (EW : D → Prop) (h : f_Move_then ds Q EW) : ws_Move_then EW { nx := fun _ => Q .non, rt := Q } (startD ["self", "other", "plus"] ds) := by
  unfold f_Move_then at h
  obtain ⟨d, p, l, h, e, b, rfl, hb, k1, k2⟩ := h
  cases b with
  | false =>
    refine (?_ : f_require_move [e] _ EW)
    unfold f_require_move
    exact ⟨e, false, rfl, hb, (fun z => nomatch z), fun _ => k1 rfl⟩
  | true =>
    obtain ⟨d2, p2, l2, h2, rfl, o, o2, hQ⟩ := k2 rfl
    refine mk_reqmv hb ?_
    refine an rfl (an rfl (an rfl (an rfl (an trivial ?_))))
    refine mk_mul (nm_i d) (o2.ps.mono (by decide)) ((sz_int o.ds (by decide)).mono (by decide)) ?_
    refine an rfl (an rfl ?_)
    have zp : Sz 1800 (p2 * (d : Rat)) := sz_mul o2.ps (sz_int o.ds (by decide))
    refine mk_add (nm_ro _) (o.ps.mono (by decide)) (zp.mono (by decide)) ?_
    refine an rfl (an rfl (an (mulW4 (na_le o.ds (by decide)) (na_le o2.ds (by decide))) ?_))
    have za : ∀ {x : Rat}, Sz 1000 x → Sz 3000 (mAt d2 p2 l2 h2 x) := fun hx => sz_hold (o2.ls.mono (by decide)) (o2.hs.mono (by decide)) ((sz_free o2.ps hx o2.d1 o2.ds (by decide)).mono (by decide))
    refine an rfl (an rfl (an rfl (mk_at (nm_ro l) o2 (o.ls.mono (by decide)) ?_)))
    refine an rfl (an rfl (an rfl (mk_at (nm_ro h) o2 (o.hs.mono (by decide)) ?_)))
    have le : mAt d2 p2 l2 h2 l ≤ mAt d2 p2 l2 h2 h := by
      refine hold_le o2.lh ?_
      have h0 : (0 : Rat) < (d2 : Rat) := Rat.intCast_pos.mpr (by have := o2.d1; omega)
      have hi : (0 : Rat) ≤ (d2 : Rat)⁻¹ := Rat.le_of_lt (Rat.inv_pos.mpr h0)
      rw [Rat.div_def, Rat.div_def]
      exact Rat.mul_le_mul_of_nonneg_right (Rat.add_le_add_right.mpr o.lh) hi
    refine mk_minit ?_ (nm_ro _) (nm_ro _) (nm_ro _) ((sz_add o.ps zp).mono (by decide)) ((za o.ls).mono (by decide)) ((za o.hs).mono (by decide)) le hQ
    have h1 := o.d1
    have h2 := o2.d1
    have := Int.mul_le_mul h1 h2 (by decide) (by omega)
    omega
theorem pure_Move_added (ds : List D) (Q : D → Prop) (EW : D → Prop) (h : f_Move_added ds Q EW) : ws_Move_added EW { nx := fun _ => Q .non, rt := Q } (startD ["self", "times", "more", "low", "high", "end"] ds) := by
  unfold f_Move_added at h
  obtain ⟨p, l, h, n, rfl, o, h1, h2, hQ⟩ := h
  have zn : Sz 300 ((n : Int) : Rat) := sz_int h2 (by decide)
  have zn1 : Sz 300 ((n - 1 : Int) : Rat) := sz_int (by omega) (by decide)
  have zm : Sz 1300 (p * ((n - 1 : Int) : Rat)) := sz_mul o.ps zn1
  refine an rfl (an rfl (an trivial ?_))
  refine mk_mul (nm_i (n - 1)) (o.ps.mono (by decide)) (zn1.mono (by decide)) ?_
  refine an rfl (an rfl (an len2 ?_))
  have ze : ∀ {x : Rat}, Sz 1000 x → Sz 2301 (x + p * ((n - 1 : Int) : Rat)) := fun hx => sz_add hx zm
  have zh : ∀ {x : Rat}, Sz 1000 x → Sz 2301 (hold l h (x + p * ((n - 1 : Int) : Rat))) := fun hx => sz_hold (o.ls.mono (by decide)) (o.hs.mono (by decide)) (ze hx)
  refine ⟨fun i acc => acc = ([l, h].take i).map fun x => ro (hold l h (x + p * ((n - 1 : Int) : Rat))), rfl, ?_, ?_⟩
  · rintro i d acc hi rfl
    match i, hi with
    | 0, hi =>
      cases hi
      refine an (by rw [sizeLine_eq]; exact (by decide : 0 < 16777216)) (an rfl (an rfl (an rfl (an rfl (mk_add (nm_ro _) (o.ls.mono (by decide)) (zm.mono (by decide)) ?_)))))
      exact mk_held (nm_ro _) (o.ls.mono (by decide)) (o.hs.mono (by decide)) ((ze o.ls).mono (by decide)) rfl
    | 1, hi =>
      cases hi
      refine an (by rw [sizeLine_eq]; exact (by decide : 1 < 16777216)) (an rfl (an rfl (an rfl (an rfl (mk_add (nm_ro _) (o.hs.mono (by decide)) (zm.mono (by decide)) ?_)))))
      exact mk_held (nm_ro _) (o.ls.mono (by decide)) (o.hs.mono (by decide)) ((ze o.hs).mono (by decide)) rfl
    | i + 2, hi => simp at hi
  · rintro acc rfl
    refine an rfl ?_
    refine an rfl (an rfl (an trivial ?_))
    refine mk_mul (nm_i n) (o.ps.mono (by decide)) (zn.mono (by decide)) ?_
    refine mk_minit (by decide) (nm_ro _) (nm_ro _) (nm_ro _) ((sz_mul o.ps zn).mono (by decide)) ((zh o.ls).mono (by decide)) ((zh o.hs).mono (by decide)) (hold_le o.lh (Rat.add_le_add_right.mpr o.lh)) hQ
theorem range_len (lo : Int) (n : Nat) : (rangeD lo n).length = n := by simp [rangeD]
theorem range_at {lo : Int} {n i : Nat} {d : D} (h : (rangeD lo n)[i]? = some d) : i < n ∧ d = .int (lo + i) := by
  have hl : i < n := by
    have := (List.getElem?_eq_some_iff.mp h).1
    rwa [range_len] at this
  refine ⟨hl, ?_⟩
  simp [rangeD, hl] at h
  exact h.symm
theorem pure_Move_done (ds : List D) (Q : D → Prop) (EW : D → Prop) (h : f_Move_done ds Q EW) : ws_Move_done EW { nx := fun _ => Q .non, rt := Q } (startD ["self", "times", "found", "turn"] ds) := by
  unfold f_Move_done at h
  obtain ⟨m, e, b, rfl, o, hb, k1, k2⟩ := h
  refine mk_isint (d := e) hb ?_
  cases b with
  | false => exact an rfl (k1 rfl)
  | true =>
    obtain ⟨n, rfl, k3, k4⟩ := k2 rfl
    show (match decide (n < 1) with
      | true => _
      | false => _)
    by_cases hn : n < 1
    · rw [decide_eq_true hn]
      exact an rfl (k3 hn)
    rw [decide_eq_false hn]
    obtain ⟨k5, k6⟩ := k4 (by omega)
    refine an rfl ?_
    show (match decide (m.d = 1) with
      | true => _
      | false => _)
    by_cases hd : m.d = 1
    · rw [decide_eq_true hd]
      obtain ⟨h2, hQ⟩ := k5 hd
      obtain ⟨d, p, l, h⟩ := m
      dsimp only at hd
      subst hd
      exact an rfl (an rfl (mk_added o (by omega) h2 hQ))
    rw [decide_eq_false hd]
    obtain ⟨k7, k8⟩ := k6 hd
    show (match decide (100 < n) with
      | true => _
      | false => _)
    by_cases hh : 100 < n
    · rw [decide_eq_true hh]
      exact an rfl (k7 hh)
    rw [decide_eq_false hh]
    obtain ⟨ok, hQ⟩ := k8 (by omega)
    refine an (by omega) (an (by omega) ?_)
    refine ⟨fun i ρ => ∃ z, ρ = [.val m.D, .val (.int n), .val (m.iter i).D, z] ∧ i ≤ (n - 1).toNat, ⟨_, rfl, by omega⟩, ?_, ?_⟩
    · rintro i d ρ hi ⟨z, rfl, hl⟩
      obtain ⟨hlt, rfl⟩ := range_at hi
      refine an rfl (an rfl (mk_then (m := m.iter i) (n := m) (ok i (by omega)) o ?_))
      exact ⟨_, rfl, by omega⟩
    · rintro ρ ⟨z, rfl, hl⟩
      rw [range_len]
      show Q (m.iter (n - 1).toNat).D
      rw [show (n - 1).toNat = n.toNat - 1 by omega]
      exact hQ
theorem mk_ne {q r : Rat} {Q R : D → Prop} (k : Q (.bl (!decide (q = r)))) : fNotF f_Ratio___eq__ [ro q, ro r] Q R := mk_eq k
theorem pure_Move___eq__ (ds : List D) (Q : D → Prop) (EW : D → Prop) (h : f_Move___eq__ ds Q EW) : ws_Move___eq__ EW { nx := fun _ => Q .non, rt := Q } (startD ["self", "other"] ds) := by
  unfold f_Move___eq__ at h
  obtain ⟨m, n, rfl, hQ⟩ := h
  refine isi_of (d := n.D) (c := .cls "Move") (b := true) rfl ?_
  refine an rfl (an rfl ?_)
  show (match !decide (m.d = n.d) with
    | true => _
    | false => _)
  by_cases h1 : m.d = n.d
  · rw [decide_eq_true h1]
    refine an rfl (an rfl (an rfl (an rfl (mk_ne ?_))))
    show (match !decide (m.p = n.p) with
      | true => _
      | false => _)
    by_cases h2 : m.p = n.p
    · rw [decide_eq_true h2]
      refine an rfl (an rfl (an rfl (an rfl (mk_eq ?_))))
      show (match D.bl (decide (m.l = n.l)) with
        | .bl true => _
        | .bl false => _
        | _ => False)
      by_cases h3 : m.l = n.l
      · rw [decide_eq_true h3]
        refine an rfl (an rfl (an rfl (an rfl (mk_eq ?_))))
        rw [show decide (m.h = n.h) = decide (m.d = n.d ∧ m.p = n.p ∧ m.l = n.l ∧ m.h = n.h) from decide_eq_decide.mpr ⟨fun z => ⟨h1, h2, h3, z⟩, fun z => z.2.2.2⟩]
        exact hQ
      · rw [decide_eq_false h3]
        rw [decide_eq_false (fun z => h3 z.2.2.1)] at hQ
        exact hQ
    · rw [decide_eq_false h2]
      rw [decide_eq_false (fun z => h2 z.2.1)] at hQ
      exact hQ
  · rw [decide_eq_false h1]
    rw [decide_eq_false (fun z => h1 z.1)] at hQ
    exact hQ
theorem len_is_integer : ∀ ds Q R, f_is_integer ds Q R → ds.length = 1 := by
  intro ds Q R h
  unfold f_is_integer at h
  obtain ⟨_, _, rfl, _⟩ := h
  rfl
theorem len_is_number : ∀ ds Q R, f_is_number ds Q R → ds.length = 1 := by
  intro ds Q R h
  unfold f_is_number at h
  obtain ⟨_, _, rfl, _⟩ := h
  rfl
theorem len_require_number : ∀ ds Q R, f_require_number ds Q R → ds.length = 1 := by
  intro ds Q R h
  unfold f_require_number at h
  obtain ⟨_, _, rfl, _⟩ := h
  rfl
theorem len_divisor_of : ∀ ds Q R, f_divisor_of ds Q R → ds.length = 2 := by
  intro ds Q R h
  unfold f_divisor_of at h
  obtain ⟨_, _, rfl, _⟩ := h
  rfl
theorem len_is_less : ∀ ds Q R, f_is_less ds Q R → ds.length = 2 := by
  intro ds Q R h
  unfold f_is_less at h
  obtain ⟨_, _, rfl, _⟩ := h
  rfl
theorem len_Ratio_of : ∀ ds Q R, f_Ratio_of ds Q R → ds.length = 2 := by
  intro ds Q R h
  unfold f_Ratio_of at h
  obtain ⟨_, _, rfl, _⟩ := h
  rfl
theorem len_extreme_of : ∀ ds Q R, f_extreme_of ds Q R → ds.length = 2 := by
  intro ds Q R h
  unfold f_extreme_of at h
  obtain ⟨_, _, _, _, _, rfl, _⟩ := h
  rfl
theorem len_Ratio_least : ∀ ds Q R, f_Ratio_least ds Q R → ds.length = 2 := by
  intro ds Q R h
  unfold f_Ratio_least at h
  obtain ⟨_, _, _, _, rfl, _⟩ := h
  rfl
theorem len_Ratio_greatest : ∀ ds Q R, f_Ratio_greatest ds Q R → ds.length = 2 := by
  intro ds Q R h
  unfold f_Ratio_greatest at h
  obtain ⟨_, _, _, _, rfl, _⟩ := h
  rfl
theorem len_Ratio___add__ : ∀ ds Q R, f_Ratio___add__ ds Q R → ds.length = 2 := by
  intro ds Q R h
  unfold f_Ratio___add__ at h
  obtain ⟨_, _, _, rfl, _⟩ := h
  rfl
theorem len_Ratio___mul__ : ∀ ds Q R, f_Ratio___mul__ ds Q R → ds.length = 2 := by
  intro ds Q R h
  unfold f_Ratio___mul__ at h
  obtain ⟨_, _, _, rfl, _⟩ := h
  rfl
theorem len_Ratio_over : ∀ ds Q R, f_Ratio_over ds Q R → ds.length = 2 := by
  intro ds Q R h
  unfold f_Ratio_over at h
  obtain ⟨_, _, _, rfl, _⟩ := h
  rfl
theorem len_Ratio___eq__ : ∀ ds Q R, f_Ratio___eq__ ds Q R → ds.length = 2 := by
  intro ds Q R h
  unfold f_Ratio___eq__ at h
  obtain ⟨_, _, rfl, _⟩ := h
  rfl
theorem len_require_move : ∀ ds Q R, f_require_move ds Q R → ds.length = 1 := by
  intro ds Q R h
  unfold f_require_move at h
  obtain ⟨_, _, rfl, _⟩ := h
  rfl
theorem len_Move_free : ∀ ds Q R, f_Move_free ds Q R → ds.length = 2 := by
  intro ds Q R h
  unfold f_Move_free at h
  obtain ⟨_, _, _, _, _, _, rfl, _⟩ := h
  rfl
theorem len_Move_held : ∀ ds Q R, f_Move_held ds Q R → ds.length = 2 := by
  intro ds Q R h
  unfold f_Move_held at h
  obtain ⟨_, _, _, _, _, _, rfl, _⟩ := h
  rfl
theorem len_Move_at : ∀ ds Q R, f_Move_at ds Q R → ds.length = 2 := by
  intro ds Q R h
  unfold f_Move_at at h
  obtain ⟨_, _, _, _, _, _, rfl, _⟩ := h
  rfl
theorem len_Move_then : ∀ ds Q R, f_Move_then ds Q R → ds.length = 2 := by
  intro ds Q R h
  unfold f_Move_then at h
  obtain ⟨_, _, _, _, _, _, rfl, _⟩ := h
  rfl
theorem len_Move_added : ∀ ds Q R, f_Move_added ds Q R → ds.length = 2 := by
  intro ds Q R h
  unfold f_Move_added at h
  obtain ⟨_, _, _, _, rfl, _⟩ := h
  rfl
theorem len_Move_done : ∀ ds Q R, f_Move_done ds Q R → ds.length = 2 := by
  intro ds Q R h
  unfold f_Move_done at h
  obtain ⟨_, _, _, rfl, _⟩ := h
  rfl
theorem len_Move___eq__ : ∀ ds Q R, f_Move___eq__ ds Q R → ds.length = 2 := by
  intro ds Q R h
  unfold f_Move___eq__ at h
  obtain ⟨_, _, rfl, _⟩ := h
  rfl
theorem len_Move___init__ : ∀ ds Q R, f_Move___init__ ds Q R → ds.length + 1 = 5 := by
  intro ds Q R h
  unfold f_Move___init__ at h
  obtain ⟨_, _, _, _, _, _, _, rfl, _⟩ := h
  rfl
end DL
namespace DL
/-! moves as maps of Rat -/
theorem hold_lo {l h x : Rat} (lh : l ≤ h) : l ≤ hold l h x := by unfold hold; dsimp only; grind
theorem hold_hi {l h x : Rat} (lh : l ≤ h) : hold l h x ≤ h := by unfold hold; dsimp only; grind
theorem hold_id {l h x : Rat} (h1 : l ≤ x) (h2 : x ≤ h) : hold l h x = x := by unfold hold; dsimp only; grind
theorem hold_eq {l h x : Rat} (lh : l ≤ h) : hold l h x = if x < l then l else if h < x then h else x := by unfold hold; dsimp only; grind
/-- a monotone map goes through hold -/
theorem hold_map {f : Rat → Rat} (hf : ∀ x y, x ≤ y → f x ≤ f y) {l h x : Rat} (lh : l ≤ h) : f (hold l h x) = hold (f l) (f h) (f x) := by
  have a := hf l h lh
  rw [hold_eq lh, hold_eq a]
  by_cases h1 : x < l
  · rw [if_pos h1]
    have := hf x l (Rat.le_of_lt h1)
    grind
  · rw [if_neg h1]
    have := hf l x (Rat.not_lt.mp h1)
    by_cases h2 : h < x
    · rw [if_pos h2]
      have := hf h x (Rat.le_of_lt h2)
      grind
    · rw [if_neg h2]
      have := hf x h (Rat.not_lt.mp h2)
      grind
theorem div_mono {d : Int} (h1 : 1 ≤ d) {x y : Rat} (h : x ≤ y) : x / (d : Rat) ≤ y / (d : Rat) := by
  have h0 : (0 : Rat) < (d : Rat) := Rat.intCast_pos.mpr (by omega)
  rw [Rat.div_def, Rat.div_def]
  exact Rat.mul_le_mul_of_nonneg_right h (Rat.le_of_lt (Rat.inv_pos.mpr h0))
/-- the free part of a move -/
def MvR.fr (m : MvR) (x : Rat) : Rat := (x + m.p) / (m.d : Rat)
theorem MvR.pt_eq (m : MvR) (x : Rat) : m.pt x = hold m.l m.h (m.fr x) := rfl
theorem fr_mono (m : MvR) (h1 : 1 ≤ m.d) {x y : Rat} (h : x ≤ y) : m.fr x ≤ m.fr y := div_mono h1 (Rat.add_le_add_right.mpr h)
theorem pt_mono (m : MvR) (h1 : 1 ≤ m.d) (lh : m.l ≤ m.h) {x y : Rat} (h : x ≤ y) : m.pt x ≤ m.pt y := hold_le lh (fr_mono m h1 h)
theorem fr_th (a b : MvR) (h1 : 1 ≤ a.d) (h2 : 1 ≤ b.d) (x : Rat) : (a.th b).fr x = b.fr (a.fr x) := by
  show (x + (a.p + b.p * (a.d : Rat))) / ((a.d * b.d : Int) : Rat) = ((x + a.p) / (a.d : Rat) + b.p) / (b.d : Rat)
  have e1 : (a.d : Rat) ≠ 0 := cast_ne h1
  have e2 : (b.d : Rat) ≠ 0 := cast_ne h2
  rw [Rat.intCast_mul]
  generalize (a.d : Rat) = u at *
  generalize (b.d : Rat) = v at *
  grind
/-- one behind another: at each number -/
theorem pt_th (a b : MvR) (h1 : 1 ≤ a.d) (h2 : 1 ≤ b.d) (la : a.l ≤ a.h) (lb : b.l ≤ b.h) (x : Rat) : (a.th b).pt x = b.pt (a.pt x) := by
  show hold (b.pt a.l) (b.pt a.h) ((a.th b).fr x) = b.pt (hold a.l a.h (a.fr x))
  rw [fr_th a b h1 h2]
  rw [hold_map (f := b.pt) (fun x y h => pt_mono b h2 lb h) la]
  have le := pt_mono b h2 lb la
  show hold (b.pt a.l) (b.pt a.h) (b.fr (a.fr x)) = hold (b.pt a.l) (b.pt a.h) (hold b.l b.h (b.fr (a.fr x)))
  have k1 : b.l ≤ b.pt a.l := hold_lo lb
  have k2 : b.pt a.h ≤ b.h := hold_hi lb
  rw [hold_eq le, hold_eq le, hold_eq lb]
  grind
theorem th_d (a b : MvR) (h1 : 1 ≤ a.d) (h2 : 1 ≤ b.d) : 1 ≤ (a.th b).d := by
  show 1 ≤ a.d * b.d
  have := Int.mul_le_mul h1 h2 (by decide) (by omega)
  omega
theorem th_le (a b : MvR) (h2 : 1 ≤ b.d) (la : a.l ≤ a.h) (lb : b.l ≤ b.h) : (a.th b).l ≤ (a.th b).h := pt_mono b h2 lb la
theorem MvR.ext' {a b : MvR} (h1 : a.d = b.d) (h2 : a.p = b.p) (h3 : a.l = b.l) (h4 : a.h = b.h) : a = b := by
  cases a; cases b; simp_all
theorem th_assoc (a b c : MvR) (h1 : 1 ≤ a.d) (h2 : 1 ≤ b.d) (h3 : 1 ≤ c.d) (la : a.l ≤ a.h) (lb : b.l ≤ b.h) (lc : c.l ≤ c.h) : (a.th b).th c = a.th (b.th c) := by
  refine MvR.ext' (Int.mul_assoc _ _ _) ?_ ?_ ?_
  · show a.p + b.p * (a.d : Rat) + c.p * ((a.d * b.d : Int) : Rat) = a.p + (b.p + c.p * (b.d : Rat)) * (a.d : Rat)
    rw [Rat.intCast_mul]
    grind
  · exact (pt_th b c h2 h3 lb lc a.l).symm
  · exact (pt_th b c h2 h3 lb lc a.h).symm
theorem iter_d (m : MvR) (k : Nat) : (m.iter k).d = m.d ^ (k + 1) := by
  induction k with
  | zero =>
    show m.d = m.d ^ (0 + 1)
    rw [Int.pow_succ, Int.pow_zero, Int.one_mul]
  | succ k ih =>
    show (m.iter k).d * m.d = _
    rw [ih, Int.pow_succ m.d (k + 1)]
theorem iter_d1 (m : MvR) (h1 : 1 ≤ m.d) (k : Nat) : 1 ≤ (m.iter k).d := by
  induction k with
  | zero => exact h1
  | succ k ih => exact th_d _ _ ih h1
theorem iter_le (m : MvR) (h1 : 1 ≤ m.d) (lh : m.l ≤ m.h) (k : Nat) : (m.iter k).l ≤ (m.iter k).h := by
  induction k with
  | zero => exact lh
  | succ k ih => exact th_le _ _ h1 ih lh
/-- k + 1 times, one number -/
def MvR.pts (m : MvR) (x : Rat) : Nat → Rat
  | 0 => x
  | k + 1 => m.pt (m.pts x k)
theorem pt_iter (m : MvR) (h1 : 1 ≤ m.d) (lh : m.l ≤ m.h) (x : Rat) (k : Nat) : (m.iter k).pt x = m.pts x (k + 1) := by
  induction k with
  | zero => rfl
  | succ k ih =>
    show ((m.iter k).th m).pt x = m.pt (m.pts x (k + 1))
    rw [pt_th _ _ (iter_d1 m h1 k) h1 (iter_le m h1 lh k) lh, ih]
/-- raised n times, then once more -/
theorem added_th (m : MvR) (hd : m.d = 1) (lh : m.l ≤ m.h) (n : Int) (hn : 1 ≤ n) : (m.added n).th m = m.added (n + 1) := by
  have e1 : ((1 : Int) : Rat) = 1 := rfl
  have en : ((n + 1 : Int) : Rat) = (n : Rat) + 1 := by rw [Rat.intCast_add]; rfl
  have en1 : ((n + 1 - 1 : Int) : Rat) = (n : Rat) := by rw [show n + 1 - 1 = n by omega]
  have em : ((n - 1 : Int) : Rat) = (n : Rat) - 1 := by rw [Rat.intCast_sub]; rfl
  have n1 : (1 : Rat) ≤ (n : Rat) := by
    have := Rat.intCast_le_intCast.mpr hn
    exact this
  have fr1 : ∀ x, m.fr x = x + m.p := fun x => by
    unfold MvR.fr
    rw [hd, e1]
    grind
  have step : ∀ b, m.pt (hold m.l m.h (b + m.p * ((n - 1 : Int) : Rat))) = hold m.l m.h (b + m.p * ((n + 1 - 1 : Int) : Rat)) ∨ ¬ (m.l ≤ b ∧ b ≤ m.h) := fun b => by
    by_cases hb : m.l ≤ b ∧ b ≤ m.h
    · refine .inl ?_
      rw [MvR.pt_eq, fr1, en1, em, hold_eq lh, hold_eq lh, hold_eq lh]
      obtain ⟨b1, b2⟩ := hb
      have key : b + m.p * (n : Rat) = b + m.p * ((n : Rat) - 1) + m.p := by grind
      rw [key]
      have s1 : 0 ≤ m.p → 0 ≤ m.p * ((n : Rat) - 1) := fun h => Rat.mul_nonneg h (by grind)
      have s2 : m.p ≤ 0 → m.p * ((n : Rat) - 1) ≤ 0 := fun h => by
        have := Rat.mul_nonneg (a := -m.p) (b := (n : Rat) - 1) (by grind) (by grind)
        grind
      generalize m.p * ((n : Rat) - 1) = t at *
      rcases Rat.le_total (a := 0) (b := m.p) with h | h
      · have := s1 h
        grind
      · have := s2 h
        grind
    · exact .inr hb
  refine MvR.ext' ?_ ?_ ?_ ?_
  · show (1 : Int) * m.d = 1
    rw [hd]; rfl
  · show m.p * (n : Rat) + m.p * ((1 : Int) : Rat) = m.p * ((n + 1 : Int) : Rat)
    rw [en, e1]
    grind
  · exact (step m.l).resolve_right fun h => h ⟨Rat.le_refl, lh⟩
  · exact (step m.h).resolve_right fun h => h ⟨lh, Rat.le_refl⟩
theorem added_one (m : MvR) (hd : m.d = 1) (lh : m.l ≤ m.h) : m.added 1 = m := by
  have e0 : ((1 - 1 : Int) : Rat) = 0 := rfl
  have e1 : ((1 : Int) : Rat) = 1 := rfl
  have z : ∀ x : Rat, x + m.p * ((1 - 1 : Int) : Rat) = x := fun x => by rw [e0]; grind
  refine MvR.ext' hd.symm ?_ ?_ ?_
  · show m.p * ((1 : Int) : Rat) = m.p
    rw [e1]; grind
  · show hold m.l m.h (m.l + m.p * ((1 - 1 : Int) : Rat)) = m.l
    rw [z, hold_id Rat.le_refl lh]
  · show hold m.l m.h (m.h + m.p * ((1 - 1 : Int) : Rat)) = m.h
    rw [z, hold_id lh Rat.le_refl]
theorem iter_added (m : MvR) (hd : m.d = 1) (lh : m.l ≤ m.h) (k : Nat) : m.iter k = m.added ((k : Int) + 1) := by
  induction k with
  | zero => exact (added_one m hd lh).symm
  | succ k ih =>
    show (m.iter k).th m = _
    rw [ih, added_th m hd lh _ (by omega)]
    have : (k : Int) + 1 + 1 = ((k + 1 : Nat) : Int) + 1 := by omega
    rw [this]
end DL
namespace DL
/-! sizes of moves done up to a hundred times -/
/-- a drawn number -/
def Gd (q : Rat) : Prop := q.num.natAbs < 2 ^ 80 ∧ q.den < 2 ^ 20
theorem Gd.sz {q : Rat} (h : Gd q) : Sz 80 q := ⟨h.1, Nat.lt_of_lt_of_le h.2 (Nat.pow_le_pow_right (by decide) (by decide))⟩
structure MvR.Good (m : MvR) : Prop where
  d1 : 1 ≤ m.d
  d2 : m.d ≤ 99
  p : Gd m.p
  l : Gd m.l
  h : Gd m.h
  lh : m.l ≤ m.h
/-- N times q is an integer -/
def In (N : Int) (q : Rat) : Prop := ∃ z : Int, q * (N : Rat) = (z : Rat)
theorem in_self (q : Rat) : In (q.den : Int) q := ⟨q.num, by
  have e : q = (q.num : Rat) / ((q.den : Int) : Rat) := by
    rw [← Rat.divInt_eq_div]
    exact q_of q
  have h0 : ((q.den : Int) : Rat) ≠ 0 := fun z => den_ne q (Rat.intCast_eq_zero_iff.mp z)
  generalize hd : ((q.den : Int) : Rat) = u at *
  generalize (q.num : Rat) = v at *
  subst e
  grind⟩
theorem In.mul {N : Int} {q : Rat} (h : In N q) (M : Int) : In (N * M) q := by
  obtain ⟨z, hz⟩ := h
  refine ⟨z * M, ?_⟩
  rw [Rat.intCast_mul, Rat.intCast_mul, ← hz]
  grind
theorem In.fr {N d : Int} {x p : Rat} (h1 : 1 ≤ d) (hx : In N x) (hp : In N p) : In (N * d) ((x + p) / (d : Rat)) := by
  obtain ⟨z1, e1⟩ := hx
  obtain ⟨z2, e2⟩ := hp
  refine ⟨z1 + z2, ?_⟩
  have h0 : (d : Rat) ≠ 0 := cast_ne h1
  rw [Rat.intCast_mul, Rat.intCast_add, ← e1, ← e2]
  generalize (d : Rat) = u at *
  grind
theorem In.swap {N M : Int} {q : Rat} (h : In (N * M) q) : In (M * N) q := by rwa [Int.mul_comm] at h
theorem abs_le {q : Rat} {B : Nat} (h : q.num.natAbs ≤ B) : -((B : Int) : Rat) ≤ q ∧ q ≤ ((B : Int) : Rat) := by
  have hd := q.den_pos
  have key : ∀ r : Rat, r.num ≤ (B : Int) → r ≤ ((B : Int) : Rat) := fun r hr => by
    rw [Rat.le_iff, Rat.num_intCast, Rat.den_intCast]
    have hp := r.den_pos
    have : (B : Int) * 1 ≤ (B : Int) * (r.den : Int) := Int.mul_le_mul_of_nonneg_left (by omega) (by omega)
    omega
  refine ⟨?_, key q (by omega)⟩
  have := key (-q) (by show -q.num ≤ _; omega)
  grind
/-- integral at N, and small: few bits -/
theorem sz_in {N : Int} {q : Rat} {a b : Nat} (hN : 0 < N) (ha : N.natAbs < 2 ^ a) (h : In N q) {B : Nat} (hB : B < 2 ^ b) (h1 : -((B : Int) : Rat) ≤ q) (h2 : q ≤ ((B : Int) : Rat)) : Sz (a + b) q := by
  obtain ⟨z, hz⟩ := h
  have N0 : (0 : Rat) < (N : Rat) := Rat.intCast_pos.mpr hN
  have e : q = Rat.divInt z N := by
    rw [Rat.divInt_eq_div, ← hz]
    have : (N : Rat) ≠ 0 := fun w => by rw [w] at N0; exact Rat.lt_irrefl N0
    generalize (N : Rat) = u at *
    grind
  have z2 : z ≤ (B : Int) * N := by
    rw [← Rat.intCast_le_intCast, Rat.intCast_mul, ← hz]
    exact Rat.mul_le_mul_of_nonneg_right h2 (Rat.le_of_lt N0)
  have z1 : -((B : Int) * N) ≤ z := by
    rw [← Rat.intCast_le_intCast, Rat.intCast_neg, Rat.intCast_mul, ← hz]
    have := Rat.mul_le_mul_of_nonneg_right h1 (Rat.le_of_lt N0)
    generalize ((B : Int) : Rat) = v at *
    generalize (N : Rat) = u at *
    grind
  have zb : z.natAbs ≤ B * N.natAbs := by
    have e2 : ((B * N.natAbs : Nat) : Int) = (B : Int) * N := by
      rw [Int.natCast_mul]
      have : ((N.natAbs : Nat) : Int) = N := by omega
      rw [this]
    omega
  have pw : B * N.natAbs < 2 ^ (a + b) := by
    rw [Nat.pow_add, Nat.mul_comm]
    exact Nat.mul_lt_mul'' ha hB
  rw [e]
  refine sz_divInt (by omega) (Nat.lt_of_le_of_lt zb pw) (Nat.lt_of_lt_of_le ha (Nat.pow_le_pow_right (by decide) (by omega)))
/-- the numbers' common part -/
def MvR.N0 (m : MvR) : Int := (m.p.den : Int) * (m.l.den : Int) * (m.h.den : Int)
theorem n0_pos (m : MvR) : 0 < m.N0 := Int.mul_pos (Int.mul_pos (by have := m.p.den_pos; omega) (by have := m.l.den_pos; omega)) (by have := m.h.den_pos; omega)
theorem n0_p (m : MvR) : In m.N0 m.p := ((in_self m.p).mul _).mul _
theorem n0_l (m : MvR) : In m.N0 m.l := (((in_self m.l).mul (m.p.den : Int)).swap).mul _
theorem n0_h (m : MvR) : In m.N0 m.h := ((in_self m.h).mul _).swap
theorem pow_pos' {d : Int} (h : 1 ≤ d) (k : Nat) : 0 < d ^ k := by
  induction k with
  | zero => simp
  | succ k ih =>
    rw [Int.pow_succ]
    exact Int.mul_pos ih (by omega)
theorem in_hold {N : Int} {l h x : Rat} (h1 : In N l) (h2 : In N h) (h3 : In N x) : In N (hold l h x) := by
  unfold hold
  dsimp only
  split <;> split <;> assumption
theorem iter_in (m : MvR) (h1 : 1 ≤ m.d) (k : Nat) : In (m.N0 * m.d ^ k) (m.iter k).l ∧ In (m.N0 * m.d ^ k) (m.iter k).h := by
  induction k with
  | zero =>
    rw [Int.pow_zero, Int.mul_one]
    exact ⟨n0_l m, n0_h m⟩
  | succ k ih =>
    have e : m.N0 * m.d ^ (k + 1) = m.N0 * m.d ^ k * m.d := by rw [Int.pow_succ, Int.mul_assoc]
    rw [e]
    have up : ∀ {q : Rat}, In m.N0 q → In (m.N0 * m.d ^ k * m.d) q := fun h => (h.mul _).mul _
    exact ⟨in_hold (up (n0_l m)) (up (n0_h m)) (In.fr h1 ih.1 ((n0_p m).mul _)), in_hold (up (n0_l m)) (up (n0_h m)) (In.fr h1 ih.2 ((n0_p m).mul _))⟩
theorem iter_box (m : MvR) (lh : m.l ≤ m.h) (k : Nat) : m.l ≤ (m.iter k).l ∧ (m.iter k).l ≤ m.h ∧ m.l ≤ (m.iter k).h ∧ (m.iter k).h ≤ m.h := by
  cases k with
  | zero => exact ⟨Rat.le_refl, lh, lh, Rat.le_refl⟩
  | succ k => exact ⟨hold_lo lh, hold_hi lh, hold_lo lh, hold_hi lh⟩
/-- what is added all in all: p times a number -/
def sumD (d : Int) : Nat → Int
  | 0 => 1
  | k + 1 => sumD d k + d ^ (k + 1)
theorem iter_p (m : MvR) (k : Nat) : (m.iter k).p = m.p * ((sumD m.d k : Int) : Rat) := by
  induction k with
  | zero =>
    show m.p = m.p * ((1 : Int) : Rat)
    have : ((1 : Int) : Rat) = 1 := rfl
    rw [this]; grind
  | succ k ih =>
    show (m.iter k).p + m.p * (((m.iter k).d : Int) : Rat) = _
    rw [ih, iter_d]
    show _ = m.p * ((sumD m.d k + m.d ^ (k + 1) : Int) : Rat)
    rw [Rat.intCast_add]
    grind
theorem na_pow {d : Int} (h0 : d.natAbs < 2 ^ 7) (k : Nat) : (d ^ k).natAbs ≤ 2 ^ (7 * k) := by
  induction k with
  | zero => simp
  | succ k ih =>
    rw [Int.pow_succ, Int.natAbs_mul, Nat.mul_succ, Nat.pow_add]
    exact Nat.mul_le_mul ih (Nat.le_of_lt h0)
theorem na_sum {d : Int} (h0 : d.natAbs < 2 ^ 7) (k : Nat) : (sumD d k).natAbs ≤ 2 ^ (7 * k + 1) := by
  induction k with
  | zero => show (1 : Int).natAbs ≤ 2; decide
  | succ k ih =>
    show (sumD d k + d ^ (k + 1)).natAbs ≤ _
    have h1 := na_pow h0 (k + 1)
    have h2 := Int.natAbs_add_le (sumD d k) (d ^ (k + 1))
    have e1 : 2 ^ (7 * (k + 1) + 1) = 2 ^ (7 * (k + 1)) + 2 ^ (7 * (k + 1)) := by rw [Nat.pow_succ]; omega
    have e2 : 2 ^ (7 * k + 1) ≤ 2 ^ (7 * (k + 1)) := Nat.pow_le_pow_right (by decide) (by omega)
    omega
theorem iter_ok (m : MvR) (g : m.Good) (k : Nat) (hk : k < 100) : (m.iter k).Ok := by
  have d7 : m.d.natAbs < 2 ^ 7 := by
    have := g.d1
    have := g.d2
    show _ < 128
    omega
  have up : ∀ {a b n : Nat}, a ≤ 2 ^ b → b < n → a < 2 ^ n := fun h hb => Nat.lt_of_le_of_lt h (Nat.pow_lt_pow_right (by decide) hb)
  have hN : (m.N0 * m.d ^ k).natAbs < 2 ^ 754 := by
    rw [Int.natAbs_mul]
    have a1 : m.N0.natAbs < 2 ^ 60 := by
      unfold MvR.N0
      rw [Int.natAbs_mul, Int.natAbs_mul, Int.natAbs_natCast, Int.natAbs_natCast, Int.natAbs_natCast]
      have := Nat.mul_lt_mul'' (Nat.mul_lt_mul'' g.p.2 g.l.2) g.h.2
      rwa [← Nat.pow_add, ← Nat.pow_add] at this
    have := Nat.mul_lt_mul'' a1 (up (n := 694) (na_pow d7 k) (by omega))
    rwa [← Nat.pow_add] at this
  have pos : 0 < m.N0 * m.d ^ k := Int.mul_pos (n0_pos m) (pow_pos' g.d1 k)
  have il := iter_in m g.d1 k
  have bx := iter_box m g.lh k
  have bl := abs_le (B := 2 ^ 80) (Nat.le_of_lt g.l.1)
  have bh := abs_le (B := 2 ^ 80) (Nat.le_of_lt g.h.1)
  have le2 : ∀ {a b c : Rat}, a ≤ b → b ≤ c → a ≤ c := fun h1 h2 => Rat.le_trans h1 h2
  refine ⟨iter_d1 m g.d1 k, ?_, ?_, ?_, ?_, iter_le m g.d1 g.lh k⟩
  · rw [iter_d]
    exact up (na_pow d7 (k + 1)) (by omega)
  · rw [iter_p]
    exact (sz_mul g.p.sz (sz_int (n := 702) (up (na_sum d7 k) (by omega)) (by decide))).mono (by decide)
  · exact (sz_in pos hN il.1 (b := 81) (Nat.pow_lt_pow_right (by decide) (by decide)) (le2 bl.1 bx.1) (le2 bx.2.1 bh.2)).mono (by decide)
  · exact (sz_in pos hN il.2 (b := 81) (Nat.pow_lt_pow_right (by decide) (by decide)) (le2 bl.1 bx.2.2.1) (le2 bx.2.2.2 bh.2)).mono (by decide)
end DL
namespace DL
open PySem PySem.Spec PyProof.Rows L2
section
variable {X : Cx} {g : G} {e o c a b : Expr} {es : List Expr} {w wa wb : WE} {t : WA} {pos p apos : Pos} {x m : Str}
/-! ### a list of one's own -/
theorem St.setOwn {K : PySem.W.Frag} {M : List Addr} {σ : L2.St} {H : Hp} {ρ : List S} {q : Addr} {ds : List D} {vs : List V} (s : St g K M σ H ρ) (i : Nat) (hq : q ∈ M) (hr : q ≠ g.rg) (h0 : Fr0 g.H0 q) (hH : H q = some (.lst vs)) (r : Reps K g.rg M H ds vs)
    (hno : ∀ (j : Nat) (z : S), j ≠ i → ρ[j]? = some z → z.isOwn = true → σ[j]? ≠ some (some (.ref q))) : St g K M (σ.set i (some (.ref q))) H (ρ.set i (.own ds)) := by
  refine ⟨s.sub, s.rg, s.live, s.ext, s.t, s.sl.set i (.own hq hr h0 hH r), ?_, s.own, s.gh⟩
  have other : ∀ {j : Nat} {z : S}, j ≠ i → (ρ.set i (S.own ds))[j]? = some z → ρ[j]? = some z := fun hj e => by rwa [List.getElem?_set_ne (Ne.symm hj)] at e
  intro i1 i2 s1 s2 v hne e1 o1 e2 o2 e3
  by_cases h1 : i1 = i
  · have h2 : i2 ≠ i := fun z => hne (h1.trans z.symm)
    have z2 := hno i2 s2 h2 (other h2 e2) o2
    rw [h1] at e3
    rw [List.getElem?_set_ne (Ne.symm h2)]
    by_cases hl : i < σ.length
    · rw [List.getElem?_set_self hl] at e3
      cases e3
      exact z2
    · rw [List.getElem?_eq_none (by simp; omega)] at e3
      cases e3
  · rw [List.getElem?_set_ne (Ne.symm h1)] at e3
    by_cases h2 : i2 = i
    · rw [h2]
      intro z
      by_cases hl : i < σ.length
      · rw [List.getElem?_set_self hl] at z
        cases z
        exact hno i1 s1 h1 (other h1 e1) o1 e3
      · rw [List.getElem?_eq_none (by simp; omega)] at z
        cases z
    · rw [List.getElem?_set_ne (Ne.symm h2)]
      exact s.ap i1 i2 s1 s2 v hne (other h1 e1) o1 (other h2 e2) o2 e3
/-- a new list into slot i, its own -/
theorem St.newOwn {K : PySem.W.Frag} {M : List Addr} {σ : L2.St} {H : Hp} {ρ : List S} {q : Addr} {ds : List D} {vs : List V} (s : St g K M σ H ρ) (hT : TOk g.T) (i : Nat) (hq : H q = none) (r : Reps K g.rg M H ds vs) : St g K (q :: M) (σ.set i (some (.ref q))) (upd H q (.lst vs)) (ρ.set i (.own ds)) := by
  have qr : q ≠ g.rg := fun z => by
    obtain ⟨o, h⟩ := s.live.rg s.rgM
    rw [← z, hq] at h; cases h
  have nM : q ∉ M := s.live.new hq
  refine (s.lay (o := .lst vs) hT hq fun ps z => (nomatch z)).setOwn i List.mem_cons_self qr (s.ext.free hq) upd_same (Reps.monoE (ext_new hT s.live s.rgM hq) (List.mem_cons_of_mem _ s.rgM) (Reps.fresh hq r)) fun j z _ hz ho he => ?_
  obtain ⟨o, h1, h2⟩ := s.sl.get hz
  rw [he] at h1
  cases h1
  cases h2 with
  | no => cases ho
  | val => cases ho
  | own a _ _ _ _ => exact nM a
  | new a _ _ _ _ => exact nM a
def wSetOwn (i : Nat) (t : WA) : WS := fun E ρ => t ρ fun ds => ds.length ≤ sizeLine ∧ E.nx (ρ.set i (.own ds))
theorem ds_setOwn {i : Nat} {p' : Pos} (hT : TOk g.T) (hN : X.N.Nodup) (ha : PA X es (liftA g X.K t)) (hi : X.N[i]? = some x := by rfl) (hx : Loc X.env.scope x := by first | exact Or.inl rfl | exact Or.inr rfl) (hf : X.fn x = true ∨ X.env.scope.names.lookup x = some .local := by first | exact .inl rfl | exact .inr rfl)
    (hs : swapsWithSole [.Name x p'] (.List es p) pos.line X.env = pure false := by rfl) (hw : swappedStores [.Name x p'] (.List es p) X.env = pure none := by rfl) (h1 : (assignEach [.Name x p'] X.env).map (·.2) = [assign (.Name x p') X.env] := by rfl) :
    PS X (.Assign [.Name x p'] (.List es p) pos) (liftS g X.K (wSetOwn i t)) := ps_imp (ps_asg (pe_lst ha) (pg_name hN hi hx hf) hs hw h1) fun D σ H h => by
  obtain ⟨M, ρ, E, s, h, l⟩ := h
  refine ⟨M, ρ, _, s, h, fun ds hd H1 vs e1 r1 => ?_⟩
  exact ⟨by rw [← r1.length]; exact hd.1, fun q hq => l.nx _ hd.2 _ _ _ ((s.mono e1).newOwn hT i hq r1)⟩
/-- x[k] of such -/
def fOwnIx (ds : List D) : F1
  | .int k, Q => (match atI ds k with
    | some d => Q d
    | none => False)
  | _, _ => False
def wOwnIx (i : Nat) (wb : WE) : WE := fun ρ Q => match ρ[i]? with
  | some (.own ds) => wb ρ fun y => fOwnIx ds y Q
  | _ => False
theorem d_ownIx {i : Nat} {p' : Pos} (hb : PE X b (liftE g X.K wb)) (hN : X.N[i]? = some m := by rfl) (hvis : Vis X.env.scope m := by first | exact Or.inl rfl | exact Or.inr (Or.inl rfl) | exact Or.inr (Or.inr rfl))
    (hd : (m == ("__debug__" : Str)) = false := by decide) (hcd : (m == ("__classdict__" : Str)) = false := by decide) (hs : PlainIx b := by exact fun _ _ => rfl) : PE X (.Subscript (.Name m p') b pos) (liftE g X.K (wOwnIx i wb)) :=
  pe_imp (pe_ix ix_list (pe_var hN hvis hd hcd) hb hs) fun σ H Q h => by
    obtain ⟨M, ρ, P, st, h, q⟩ := h
    unfold wOwnIx at h
    split at h
    · rename_i ds hi
      obtain ⟨o, eo, rs⟩ := st.sl.get hi
      cases rs with
      | own a1 a2 a3 a4 a5 =>
        refine ⟨_, eo, M, ρ, _, st, h, fun y hy H1 v e1 r1 => ?_⟩
        have s1 := st.mono e1
        obtain ⟨o1, eo1, rs1⟩ := s1.sl.get hi
        rw [eo] at eo1
        cases eo1
        cases rs1 with
        | own b1 b2 b3 b4 b5 =>
          unfold fOwnIx at hy
          split at hy
          · split at hy
            · rename_i d hd
              obtain ⟨w, hw, rw⟩ := reps_at b5 hd
              exact ⟨_, _, _, w, rfl, r1.int_v, SqL.of b4, hw, q d hy H1 w e1 rw⟩
            · exact hy.elim
          · exact hy.elim
    · exact h.elim
/-- x = x[::-1] of such -/
def wOwnRev (i : Nat) : WS := fun E ρ => match ρ[i]? with
  | some (.own ds) => E.nx (ρ.set i (.own ds.reverse))
  | _ => False
theorem ds_ownRev {i k : Nat} {p1 p2 p3 p4 p5 pv : Pos} (hT : TOk g.T) (hN : X.N.Nodup) (hi : X.N[i]? = some x := by rfl) (hvis : Vis X.env.scope x := by first | exact Or.inl rfl | exact Or.inr (Or.inl rfl) | exact Or.inr (Or.inr rfl)) (hx : Loc X.env.scope x := by first | exact Or.inl rfl | exact Or.inr rfl)
    (hf : X.fn x = true ∨ X.env.scope.names.lookup x = some .local := by first | exact .inl rfl | exact .inr rfl) (hd : (x == ("__debug__" : Str)) = false := by decide) (hcd : (x == ("__classdict__" : Str)) = false := by decide)
    (hs : swapsWithSole [.Name x p5] (.Subscript (.Name x pv) (.Slice none none (some (.UnaryOp .USub (.Constant (.int 1) k p1) p2)) p3) p4) pos.line X.env = pure false := by rfl) (hw : swappedStores [.Name x p5] (.Subscript (.Name x pv) (.Slice none none (some (.UnaryOp .USub (.Constant (.int 1) k p1) p2)) p3) p4) X.env = pure none := by rfl)
    (h1 : (assignEach [.Name x p5] X.env).map (·.2) = [assign (.Name x p5) X.env] := by rfl) :
    PS X (.Assign [.Name x p5] (.Subscript (.Name x pv) (.Slice none none (some (.UnaryOp .USub (.Constant (.int 1) k p1) p2)) p3) p4) pos) (liftS g X.K (wOwnRev i)) := ps_imp (ps_asg (pe_revL (pe_var hi hvis hd hcd)) (pg_name hN hi hx hf) hs hw h1) fun D σ H h => by
  obtain ⟨M, ρ, E, s, h, l⟩ := h
  unfold wOwnRev at h
  split at h
  · rename_i ds hi
    obtain ⟨o, eo, rs⟩ := s.sl.get hi
    cases rs with
    | own a1 a2 a3 a4 a5 => exact ⟨_, eo, _, _, rfl, SqL.of a4, fun q hq => l.nx _ h _ _ _ (s.newOwn hT i hq a5.reverse)⟩
  · exact h.elim
/-- x[k] = e of such -/
def wOwnPut (i : Nat) (w wb : WE) : WS := fun E ρ => w ρ fun d => match ρ[i]? with
  | some (.own ds) => wb ρ fun y => (match y with
    | .int k => (match ixN ds.length k with
      | some j => E.nx (ρ.set i (.own (ds.set j d)))
      | none => False)
    | _ => False)
  | _ => False
theorem Reps.put {K : PySem.W.Frag} {rg : Addr} {M : List Addr} {H : Hp} {d : D} {v : V} : ∀ {ds : List D} {vs : List V} (j : Nat), Reps K rg M H ds vs → Rep K rg M H d v → Reps K rg M H (ds.set j d) (vs.set j v)
  | _, _, _, .nil, _ => .nil
  | _, _, 0, .cons _ t, r => .cons r t
  | _, _, j + 1, .cons a t, r => .cons a (Reps.put j t r)
theorem ds_ownPut {i : Nat} {p1 p2 : Pos} (hT : TOk g.T) (he : PE X e (liftE g X.K w)) (hb : PE X b (liftE g X.K wb)) (hi : X.N[i]? = some x := by rfl) (hvis : Vis X.env.scope x := by first | exact Or.inl rfl | exact Or.inr (Or.inl rfl) | exact Or.inr (Or.inr rfl))
    (hd : (x == ("__debug__" : Str)) = false := by decide) (hcd : (x == ("__classdict__" : Str)) = false := by decide)
    (hs : swapsWithSole [.Subscript (.Name x p1) b p2] e pos.line X.env = pure false := by rfl) (hw : swappedStores [.Subscript (.Name x p1) b p2] e X.env = pure none := by rfl) (h1 : (assignEach [.Subscript (.Name x p1) b p2] X.env).map (·.2) = [assign (.Subscript (.Name x p1) b p2) X.env] := by rfl)
    (ha : ∀ v, assign (.Subscript (.Name x p1) b p2) X.env v = (do
      let ov ← holding [v] (eval (.Name x p1) X.env)
      let iv ← holding [v, ov] (eval b X.env)
      standAt p2
      holding [v, ov, iv] (setItem ov iv v)
      release [v, ov, iv] []) := by intro _; rfl) :
    PS X (.Assign [.Subscript (.Name x p1) b p2] e pos) (liftS g X.K (wOwnPut i w wb)) := ps_imp (ps_asg he (pg_sub (pe_var hi hvis hd hcd) hb set_list ha) hs hw h1) fun D σ H h => by
  obtain ⟨M, ρ, E, s, h, l⟩ := h
  refine ⟨M, ρ, _, s, h, fun d hd0 H1 v e1 r1 => ?_⟩
  have s1 := s.mono e1
  split at hd0
  · rename_i ds hi
    obtain ⟨o, eo, rs⟩ := s1.sl.get hi
    cases rs with
    | own a1 a2 a3 a4 a5 =>
      rename_i q vs
      refine ⟨_, eo, M, ρ, _, s1, hd0, fun y hy H2 u e2 r2 => ?_⟩
      have s2 := s1.mono e2
      obtain ⟨o2, eo2, rs2⟩ := s2.sl.get hi
      rw [eo] at eo2
      cases eo2
      cases rs2 with
      | own b1 b2 b3 b4 b5 =>
        rename_i ws
        split at hy
        · split at hy
          · rename_i j hj
            have r1' := r1.monoE e2 s.rgM
            refine ⟨_, _, _, j, rfl, r2.int_v, b4, by rw [← b5.length]; exact hj, ?_⟩
            have sn := s2.setNo i (some (.ref q))
            have hσ : σ.set i (some (.ref q)) = σ := by
              apply List.ext_getElem?
              intro j'
              rw [List.getElem?_set]
              by_cases hj' : i = j'
              · subst hj'
                rw [if_pos rfl, eo]
                simp [(List.getElem?_eq_some_iff.mp eo).1]
              · rw [if_neg hj']
            rw [hσ] at sn
            have hno : ∀ (j' : Nat) (z : S), (ρ.set i S.no)[j']? = some z → z.isOwn = true → σ[j']? ≠ some (some (.ref q)) := fun j' z hz ho he => by
              have hj' : j' ≠ i := by
                rintro rfl
                by_cases hl : j' < ρ.length
                · rw [List.getElem?_set_self hl] at hz; cases hz; cases ho
                · rw [List.getElem?_eq_none (by simp; omega)] at hz; cases hz
              rw [List.getElem?_set_ne (Ne.symm hj')] at hz
              exact s2.ap j' i z _ (.ref q) hj' hz ho hi rfl he eo
            have sw := sn.write (ys := ws.set j v) hT b1 b2 b3 b4 hno
            have em : ExtM g.rg M H2 (upd H2 q (.lst (ws.set j v))) := ⟨fun b o hb _ e => by rw [upd_ne (fun z => hb (by rw [z]; exact b1))]; exact e, fun o e => ⟨o, by rw [upd_ne (Ne.symm b2)]; exact e, fun z => z⟩⟩
            have so := sw.setOwn (ds := ds.set j d) i b1 b2 b3 upd_same (Reps.mono em (b5.put j r1')) fun j' z hj' hz ho => hno j' z hz ho
            rw [hσ, List.set_set] at so
            exact l.nx _ hy _ _ _ so
          · exact hy.elim
        · exact hy.elim
  · exact hd0.elim
end
end DL
namespace DL
open PySem PySem.Spec PyProof.Rows L2
/-! ### the law's own numbers: a list of two that is written -/
@[irreducible] def f_law_draw : F := fun ds Q _ => ∃ n : Int, ds = [.rng, .int n] ∧ 0 < n ∧ n < 2 ^ 40 ∧ ∀ d : Int, 0 ≤ d → d < n → Q (.int d)
theorem len_law_draw : ∀ ds Q R, f_law_draw ds Q R → ds.length = 2 := by
  intro ds Q R h
  unfold f_law_draw at h
  obtain ⟨_, rfl, _⟩ := h
  rfl
abbrev tIt (K : PySem.W.Frag) (i : Nat) (k : Int) : TE := tOp (rIxL K) (tVar i) (tC (.int k))
abbrev rTyI : List V → Hp → VK → Prop := fun xs H Q => (∃ i, xs = [.int i] ∧ Q (.int i) H) ∨ ∃ k, xs = [.bl k] ∧ Q (.int (if k then 1 else 0)) H
abbrev rDiv : List V → Hp → VK → Prop := fun xs H Q => ∃ i j, xs = [.int i, .int j] ∧ CDivP i j ∧ ∀ p, H p = none → Q (.ref p) (upd H p (.tup [.int (i / j), .int (i % j)]))
abbrev rMod : R2 := rI (fun _ j => 0 < j) fun i j => .int (i % j)
abbrev rMul : R2 := rI CMul fun i j => .int (i * j)
abbrev rFd : R2 := rI CDivW fun i j => .int (i / j)
abbrev rAd : R2 := rI0 fun i j => .int (i + j)
abbrev rGt : R2 := rI0 fun i j => .bl (decide (j < i))
def t_draw (K : PySem.W.Frag) : TS := tSeq (tIfS (tTest (tOp rGt (tIt K 0 0) (tC (.int 0))))
    (tSeq (tAsg (tCB rDiv (tCons (tIt K 0 0) (tCons (tVar 1) tNil))) (gTup K 2 (gCons (gSub (tVar 0) (tC (.int 0)) rSetL) (gCons (gName 2) gNil)))) (tRet (tVar 2))) tNext)
  (tSeq (tAsg (tOp rMod (tCB rTyI (tCons (tOp rAd (tOp rMul (tIt K 0 1) (tC (.int 48271))) (tC (.int 12227))) tNil)) (tC (.int 2147483587))) (gSub (tVar 0) (tC (.int 1)) rSetL))
    (tRet (tOp rMod (tCB rTyI (tCons (tOp rFd (tOp rMod (tCB rTyI (tCons (tOp rMul (tIt K 0 1) (tIt K 0 1)) tNil)) (tC (.int 2147483549))) (tC (.int 13))) tNil)) (tVar 1))))
/-- the list at rg is written -/
theorem rng_put {T : Hp → Prop} {rg : Addr} {H : Hp} {xs : List V} {x y : Int} (hT : TOk T) (h : H rg = some (.lst xs)) (h0 : 0 ≤ x) (t : T H) : Ext T rg H (upd H rg (.lst [.int x, .int y])) := by
  refine ⟨fun b o nb _ e => by rw [upd_ne nb]; exact e, fun o _ => ⟨_, upd_same, fun _ => ⟨x, y, rfl, h0⟩, fun _ ps z => (nomatch z)⟩, fun _ => ?_, fun b o n e => ?_⟩
  · refine hT H _ (fun b o e => ?_) t
    by_cases z : b = rg
    · rw [z, h] at e
      cases e
      exact .inr ⟨fun ps z => (nomatch z), fun φ z => (nomatch z)⟩
    · exact .inl (by rw [upd_ne z]; exact e)
  · by_cases z : b = rg
    · exact ⟨.lst [.int x, .int y], by rw [z]; exact upd_same, fun ps z => (nomatch z)⟩
    · exact ⟨o, by rw [upd_ne z]; exact e, n⟩
theorem log2_small {j : Int} (h0 : 0 ≤ j) (h : j < 2 ^ 40) : j.natAbs.log2 < 9000 := by
  have := PySem.Flt.log2_lt_of (n := j.natAbs) (k := 41) (by decide) (by omega)
  omega
theorem pure_draw {T : Hp → Prop} {K : PySem.W.Frag} (hT : TOk T) (vs : List V) (H : Hp) (Q : VK) (E : XK) (h : spD T K f_law_draw vs H Q E) : t_draw K { nx := fun _ H' => Q .non H', rt := Q } (L2.start ["_law_rng_here", "_law_many", "_law_digit"] vs) H := by
  obtain ⟨rg, M, ds, P, R, hm, hl, ht, hr, hf, hP, _⟩ := h
  unfold f_law_draw at hf
  obtain ⟨n, rfl, n0, n1, hq⟩ := hf
  cases hr with
  | cons r1 r2 => cases r2 with
    | cons r3 r4 =>
      cases r4
      have e3 := r3.int_v
      subst e3
      cases r1 with
      | rng ok =>
        obtain ⟨o, ho, x, y, rfl, x0⟩ := ok
        have it : ∀ (k : Int) (z : Int) {H' : Hp} {a b : Int} {Q' : VK}, H' rg = some (.lst [.int a, .int b]) → atI [V.int a, V.int b] k = some (.int z) → Q' (.int z) H' → tIt K 0 k (L2.start ["_law_rng_here", "_law_many", "_law_digit"] [.ref rg, .int n]) H' Q' := fun k z H' a b Q' e1 e2 q =>
          ⟨_, rfl, rg, _, k, _, rfl, rfl, SqL.of e1, e2, q⟩
        refine it 0 x ho rfl ⟨_, _, rfl, rfl, _, rfl, ?_⟩
        by_cases hx : 0 < x
        · rw [decide_eq_true hx]
          refine iteT ?_
          refine it 0 x ho rfl ⟨.int n, rfl, ?_⟩
          refine ⟨x, n, rfl, ⟨n0, PyProof.noPylong_of_log2 (log2_small (by omega) n1)⟩, fun p hp => ?_⟩
          have ne : rg ≠ p := ne_of_none ho hp
          have e1 := ext_new (o := .tup [.int (x / n), .int (x % n)]) hT hl hm hp
          have ho1 : upd H p (.tup [.int (x / n), .int (x % n)]) rg = some (.lst [.int x, .int y]) := by rw [upd_ne ne]; exact ho
          refine ⟨p, _, rfl, .inl (.inl upd_same), rfl, _, _, rfl, ⟨.ref rg, rfl, rg, _, 0, 0, rfl, rfl, ho1, rfl, ?_⟩⟩
          refine ⟨_, _, rfl, rfl, ?_⟩
          refine ⟨.int (x % n), rfl, ?_⟩
          exact hP _ (hq (x % n) (Int.emod_nonneg x (by omega)) (Int.emod_lt_of_pos x n0)) _ _ (e1.trans (rng_put hT ho1 (Int.ediv_nonneg x0 (by omega)) (e1.tab ht))) (.int _)
        · rw [decide_eq_false hx]
          refine iteF ?_
          refine it 1 y ho rfl ?_
          have m0 : ∀ z : Int, 0 ≤ z % 2147483587 := fun z => Int.emod_nonneg z (by decide)
          have m1 : ∀ z : Int, z % 2147483587 < 2147483587 := fun z => Int.emod_lt_of_pos z (by decide)
          refine ⟨_, _, rfl, rfl, .inr (by decide), _, _, rfl, rfl, .inl ⟨_, rfl, ?_⟩⟩
          refine ⟨_, _, rfl, rfl, (by decide : (0:Int) < 2147483587), ?_⟩
          refine ⟨.ref rg, rfl, rg, _, 1, 1, rfl, rfl, ho, rfl, ?_⟩
          have z0 := m0 (y * 48271 + 12227)
          have z1 := m1 (y * 48271 + 12227)
          have ho2 : upd H rg (.lst [.int x, .int ((y * 48271 + 12227) % 2147483587)]) rg = some (.lst [.int x, .int ((y * 48271 + 12227) % 2147483587)]) := upd_same
          refine it 1 ((y * 48271 + 12227) % 2147483587) ho2 rfl (it 1 ((y * 48271 + 12227) % 2147483587) ho2 rfl ?_)
          refine ⟨_, _, rfl, rfl, .inl ⟨by omega, by omega⟩, .inl ⟨_, rfl, ?_⟩⟩
          refine ⟨_, _, rfl, rfl, (by decide : (0:Int) < 2147483549), ?_⟩
          refine ⟨_, _, rfl, rfl, ⟨by decide, by decide +kernel⟩, .inl ⟨_, rfl, ?_⟩⟩
          refine ⟨.int n, rfl, _, _, rfl, rfl, n0, ?_⟩
          exact hP _ (hq _ (Int.emod_nonneg _ (by omega)) (Int.emod_lt_of_pos _ n0)) _ _ (rng_put hT ho x0 ht) (.int _)
end DL
namespace DL
open PySem PySem.Spec PyProof.Rows L2
/-! ### == and != of texts -/
@[irreducible] def fEqS : F2
  | .str a, .str b, Q => Q (.bl (decide (a = b)))
  | _, _, _ => False
@[irreducible] def fNeS : F2
  | .str a, .str b, Q => Q (.bl (!decide (a = b)))
  | _, _, _ => False
theorem vdecS (a b : Str) : (decide ((V.str a : V) = .str b)) = decide (a = b) := by
  by_cases h : a = b
  · subst h; simp
  · rw [decide_eq_false h, decide_eq_false (fun z => h (V.str.inj z))]
theorem od_eqS {X : Cx} {T : Hp → Prop} : OpD X T (compareOp .Eq) fEqS := opd_flat op_eq fun rg M H dx dy x y P Q hm rx ry hf q => by
  unfold fEqS at hf
  split at hf
  · rw [rx.str_v, ry.str_v]
    refine ⟨rfl, ?_⟩
    rw [vdecS]
    exact q _ hf _ (.bl _)
  · exact hf.elim
theorem od_neS {X : Cx} {T : Hp → Prop} : OpD X T (compareOp .NotEq) fNeS := opd_flat op_ne fun rg M H dx dy x y P Q hm rx ry hf q => by
  unfold fNeS at hf
  split at hf
  · rw [rx.str_v, ry.str_v]
    refine ⟨rfl, ?_⟩
    rw [vdecS]
    exact q _ hf _ (.bl _)
  · exact hf.elim
end DL
namespace DL
open PySem PySem.Spec PyProof.Rows L2
/-! ### try with several clauses that name what they catch; each suite runs through to its end, and no exception gets by -/
abbrev Sui := Addr → Value → Option Addr → TS
def wNamed (K : PySem.W.Frag) (n : Nat) (D : Ends) : List (Value × Nat × Sui) → WX
  | [] => fun _ _ _ _ => False
  | q :: r => fun cls dd σ H => σ.length = n → ∃ yes, PySem.W.exmOne K cls q.1 = some yes ∧ (yes = true → ∀ e, H e = none → q.2.2 e cls dd { nx := fun τ J => D.nx (τ.set q.2.1 none) J, rt := fun _ _ => False, bk := fun _ _ => False, ct := fun _ _ => False } (σ.set q.2.1 (some (.ref e))) H) ∧
      (yes = false → wNamed K n D r cls dd σ H)
inductive Named (X : Cx) : List ExceptHandler → List (Value × Nat × Sui) → Prop
  | nil : Named X [] []
  | cons {x nm : Str} {c : Value} {j : Nat} {ts : Sui} {st : Stmt} {more : List Stmt} {p1 p2 : Pos} {rest : List ExceptHandler} {l : List (Value × Nat × Sui)} (hx : Names X x c) (hj : X.N[j]? = some nm) (hk : X.env.kindOf nm = some .local)
      (hsuite : ∀ (e : Addr) (oe : Obj) (cls : Value) (dd : Option Addr) (pn : List (Addr × Obj)), Zc cls dd oe → (∃ vs, oe.data = .fields vs) → PSs (X.suite e ((e, oe) :: pn)) (st :: more) (ts e cls dd)) (hr : Named X rest l) :
      Named X (.ExceptHandler (some (.Name x p1)) (some nm) (st :: more) p2 :: rest) ((c, j, ts) :: l)
section
variable {X : Cx} {body : List Stmt} {first : ExceptHandler} {rest : List ExceptHandler} {l : List (Value × Nat × Sui)} {pos : Pos} {tb : WX → TS}
theorem ps_named (hst : X.stack = X.env :: X.outer) (hfr : X.env.frame = some X.env.locals) (hnd : X.N.Nodup)
    (hbody : ∀ (W : WX) (pn : List (Addr × Obj)) (xe : Value → Shared → Prop), Takes (X.tr pn xe) W → PassesOwn (model X.prog X.w) X.A X.env xe → PSs (X.tr pn xe) body (tb W)) (hh : Named X (first :: rest) l) :
    PS X (.Try body (first :: rest) [] [] pos) (fun D σ H => tb (wNamed X.K X.N.length D l) { nx := D.nx, rt := fun _ _ => False, bk := fun _ _ => False, ct := fun _ _ => False } σ H) := by
  refine ⟨fun pins s σ H D inv hyp => wpAny_Try_except ?_⟩
  have okX := inv.ok
  have stk : X.A.frames = some (X.env :: X.outer) := by rw [okX.frames, hst]
  let caught : Value → Shared → Prop := fun e s1 => wpAny (model X.prog X.w) X.A (noteFrame e X.env) (fun _ s2 => wpAny (model X.prog X.w) X.A (setFlight e none) (fun _ s3 => wpAny (model X.prog X.w) X.A (handleBy e X.env (first :: rest)) (SP X pins D) X.xe s3) X.xe s2) X.xe s1
  refine wpAny_mono ((hbody (wNamed X.K X.N.length D l) (X.pn ++ pins) caught (fun v s' fly => ?_) PassesOwn.looking).run [] s σ H _ (inv.toTry _) hyp) (fun fl s1 fin => ?_) (fun e s1 he => he)
  · obtain ⟨a, B, sI, pins', σ', H', cls, dd, rfl, J1, nb, up, sky, na, os, ag, wish⟩ := fly
    have J := J1.ofTry okX
    rw [hst] at sky
    show wpAny (model X.prog X.w) X.A (noteFrame (.ref a) X.env) _ _ _
    refine Sky.land Zc.steady stk hfr sky fun h1 fly1 up1 => ?_
    have K1 : Inv X pins σ' H' { s' with heap := h1 } := J.landed nb fly1.1 (up.trans up1) os ag
    obtain ⟨oe1, vs1, at1, z1, dt1⟩ := fly1.there
    have noFrame : a ∉ frs (X.env :: X.outer) := fun hm => by
      obtain ⟨_, o2, at2, hn⟩ := fly1.2.2.1.mem hm
      rw [at1] at at2
      cases at2
      exact hn _ dt1
    have n1 : a ≠ X.env.locals := fun z => noFrame (List.mem_filterMap.mpr ⟨X.env, List.mem_cons_self, by rw [hfr, z]⟩)
    have n2 : a ∉ X.fs := fun hm => by
      obtain ⟨e, he, q⟩ := List.mem_filterMap.mp hm
      exact noFrame (List.mem_filterMap.mpr ⟨e, .tail _ he, q⟩)
    have S1 := K1.suite at1 dt1 na n1 n2
    have typ : PySem.W.Looks (model X.prog X.w) h1 (typeOf (.ref a)) cls := fun A Q E s k q => wpAny_typeOf_ref (k _ _ at1) (by rw [z1.1]; exact q)
    have go : ∀ {hs2 : List ExceptHandler} {l2 : List (Value × Nat × Sui)}, Named X hs2 l2 → wNamed X.K X.N.length D l2 cls dd σ' H' → wpAny (model X.prog X.w) X.A (handleBy (.ref a) X.env hs2) (SP X pins D) X.xe { s' with heap := h1 } := by
      intro hs2 l2 hn
      induction hn with
      | nil => exact fun z => z.elim
      | @cons x nm c j ts st more p1 p2 rest2 l3 hx hj hk hsuite hr ih =>
        intro wish
        obtain ⟨yes, e1, ifY, ifN⟩ := wish J.len
        refine wpAny_handleBy_cons (codeAny_handlers_test ?_) (by intro q; cases q)
        have match_ := PySem.W.exm_one (M := model X.prog X.w) K1.kIn typ e1
        have name : ∀ {Q E : Value → Shared → Prop}, Q c { s' with heap := h1 } → wpAny (model X.prog X.w) (X.A.mark (some (.ref a))) (eval (.Name x p1) X.env) Q E { s' with heap := h1 } := fun {Q E} q => by
          obtain ⟨g1, g2, g3 | ⟨g3, g4, g5⟩⟩ := hx
          · exact ld_glob (X := X.suite a ((a, oe1) :: (X.pn ++ pins))) S1 g1 g3 q g2
          · exact ld_blt (X := X.suite a ((a, oe1) :: (X.pn ++ pins))) S1 g1 g3 g4 q g5 g2
        refine name (match_.here ?_)
        cases yes with
        | false => exact ih (ifN rfl)
        | true =>
          refine codeAny_handlers_suite_as (HandSPX.lands_againZ fly1 fun h2 fly2 up2 => ?_)
          have K2 : Inv X pins σ' H' { s' with heap := h2 } := J.landed nb fly2.1 ((up.trans up1).trans up2) os ag
          obtain ⟨oe2, vs2, at2, z2, dt2⟩ := fly2.there
          refine store_ok (X := X.suite a ((a, oe2) :: (X.pn ++ pins))) (v := .ref a) (K2.suite at2 dt2 na n1 n2) hnd hj (.inl hk) rfl (fun s3 S3 => ?_) (.inr hk)
          refine wpAny_mono ((hsuite a oe2 cls dd (X.pn ++ pins) z2 ⟨_, dt2⟩).run [] s3 _ H' _ S3 (ifY rfl a na)) (fun fl s4 fin => ?_) (fun _ _ z => z.elim)
          match fl, fin with
          | .next, ⟨τ, J4, S4, q4⟩ => exact gone_ok (S4.unsuite okX) hnd hj hk fun s5 I5 => ⟨_, _, I5, q4⟩
          | .brk, ⟨_, _, _, z⟩ => exact z.elim
          | .cont, ⟨_, _, _, z⟩ => exact z.elim
          | .ret u, ⟨_, _, _, _, _, z⟩ => exact z.elim
    exact go hh wish
  · match fl, fin with
    | .next, ⟨τ, J4, S4, q4⟩ => exact wpAny_execs_nil ⟨τ, J4, S4.ofTry okX, q4⟩
    | .brk, ⟨_, _, _, z⟩ => exact z.elim
    | .cont, ⟨_, _, _, z⟩ => exact z.elim
    | .ret u, ⟨_, _, _, _, _, z⟩ => exact z.elim
end
end DL
namespace DL
open PySem PySem.Spec PyProof.Rows L2
/-! ### defs that also run where an exception is being handled -/
def FnC (P : Program) (w : World) (K : PySem.W.Frag) (mg : Str → Option Value) (base : Heap) (CX : CXT) (k : Nat) (f : Addr) (sp : Sp) : Prop :=
  ∀ (A : Around) (outer : List Env) (s : Shared) (H : Hp) (us : List Value) (vs : List V) (Q : VK) (E : XK), A.depth + 3 * k + 5 < recursionLimit → Env0 P w K mg base A outer s H → Vals vs us → sp vs H Q E → codeAny (model P w) A (.call (.ref f) ⟨us, []⟩) (CR CX outer P w H s Q E) s
/-- a body's context, not calm -/
abbrev coolCx (CX : CXT) (P : Program) (w : World) (K : PySem.W.Frag) (mg : Str → Option Value) (base : Heap) (N : List Str) (qual : Str) (scope : Scope) (f : Addr) (cd : Value) (A : Around) (outer : List Env) (s : Shared) (H : Hp) (E : XK) : Cx :=
  { cxOf CX P w K mg base N qual scope f cd A outer s H E with calm := false }
theorem inv_cool {CX : CXT} {P : Program} {w : World} {K : PySem.W.Frag} {mg : Str → Option Value} {base : Heap} {N ps : List Str} {qual : Str} {scope : Scope} {f : Addr} {cd : Value} {A : Around} {outer : List Env} {s s1 : Shared} {H : Hp} {E : XK} {us : List Value} {vs : List V}
    (S : FnScope N ps scope) (e0 : Env0 P w K mg base A outer s H) (hl : vs.length = ps.length) (r : Vals vs us)
    (x : InCallC s s.heap.objs.size (bindL (envOfC qual scope s.heap.objs.size f cd).kindOf (ps.zip us) fun _ => none) (cellsFrom (s.heap.objs.size + 1) scope.names []) (bindC (envOfC qual scope s.heap.objs.size f cd).kindOf (ps.zip us) fun _ => none) s1) :
    Inv (coolCx CX P w K mg base N qual scope f cd A outer s H E) [] (L2.start N vs) H s1 := by
  have I := inv_start (CX := CX) (E := E) (A := { A with handled := none }) S rfl (⟨e0.frames, e0.mod, e0.bs, e0.bsz, e0.funs, e0.frf, e0.hok, e0.bare⟩ : Env0 P w K mg base { A with handled := none } outer s H) hl r x
  have ok := I.ok
  exact ⟨⟨ok.mod, ok.kind, ok.glob, ok.blt, ok.above, ok.inj, ok.has, ok.cab, (fun z => absurd (show false = true from z) Bool.false_ne_true), Around.frames_deeper e0.frames, ok.stk, ok.exf, ok.bs, ok.bsz, ok.noex, ok.exfs, ok.funs, ok.frf⟩,
    I.os, I.bare, I.base, I.loc, I.cell, I.free, I.freeC, I.pin, I.hok, I.len⟩
theorem run_cool {CX : CXT} {P : Program} {w : World} {K : PySem.W.Frag} {mg : Str → Option Value} {base : Heap} {f : Addr} {name qual : Str} {params : Arguments} {body : List Stmt} {scope : Scope} {dV kV doc pm cdv ct oc : Value} {an od : Option Addr}
    {osl : Array (Option Value)} {N ps : List Str} (lk : K.lookup f = some ⟨oc, od, .func (PySem.W.fnOf name qual params body scope dV kV doc pm an cdv ct), osl⟩) (hcd : PySem.W.codeIn K cdv qual = true) (S : FnScope N ps scope)
    {A : Around} {outer : List Env} {s : Shared} {H : Hp} {args : Args} {us : List Value} {vs : List V} {Q : VK} {E : XK} (hdp : A.depth < recursionLimit) (e0 : Env0 P w K mg base A outer s H) (hb : BindsTo s (PySem.W.fnOf name qual params body scope dV kV doc pm an cdv ct) args (ps.zip us)) (r : Vals vs us) (hl : vs.length = ps.length)
    (hbody : ∃ t, PSs (coolCx CX P w K mg base N qual scope f cdv A outer s H E) body t ∧ t { nx := fun _ H' => Q .non H', rt := Q } (L2.start N vs) H) : codeAny (model P w) A (.call (.ref f) args) (CR CX outer P w H s Q E) s := by
  have KX : K.In s.heap := e0.mod.kin.keeps fun b o e => (e0.bs b o e).1
  have lim : s.heap.NoLimit := e0.mod.nolimit.keeps fun b o e => (e0.bs b o e).1
  have kinds : ∀ y ∈ ps.zip us, scope.names.lookup y.1 = some .local ∨ (scope.names.lookup y.1 = some .cell ∧ ((cellsFrom (s.heap.objs.size + 1) scope.names []).lookup y.1).isSome = true) := fun y hy => (S.par y.1 (List.of_mem_zip (a := y.1) (b := y.2) hy).1).imp id fun q => ⟨q, PySem.W.cellsFrom_some _ _ _ (.inl q)⟩
  refine codeAny_call_function hdp (KX _ _ lk) rfl S.co S.gen rfl (PySem.W.codeRec_of KX hcd) (hb _ _ _ _ (wpAny_newFunctionEnv_cells S.kind kinds fun env he s1 x => ?_))
  subst he
  refine ⟨lim.keeps x.toInCall.keep, codeAny_func ?_⟩
  obtain ⟨t, ht, hq⟩ := hbody
  refine wpAny_mono (ht.run [] s1 (L2.start N vs) H _ (inv_cool S e0 hl r x) hq) (fun fl s' hs => ?_) fun e s' hs => hs
  have out : ∀ {σ' : L2.St} {H' : Hp} {v : V} {u : Value}, Inv (coolCx CX P w K mg base N qual scope f cdv A outer s H E) [] σ' H' s' → L2.RelV v u → Q v H' → CE outer P w H s Q u s' := fun {σ' H' v u} J rv q => ⟨v, H', J.os, J.bare, J.base, J.hok, rv, q⟩
  match fl, hs with
  | .ret u, ⟨v, σ', H', J, rv, q⟩ => exact out J rv q
  | .next, ⟨σ', H', J, q⟩ => exact out (v := V.non) (u := Value.none) J rfl q
  | .brk, ⟨_, _, _, q⟩ => exact q.elim
  | .cont, ⟨_, _, _, q⟩ => exact q.elim
/-! ### repr of an own object, of an empty dict -/
/-- the def at fa: it gives the text tx of the object's fields -/
def spText (K : PySem.W.Frag) (c : Str) (tx : List (Str × V) → Option Str) : Sp := fun vs H Q _ => ∃ a dx fs s, vs = [.ref a] ∧ H a = some (.ins (He.ga K c) dx fs) ∧ tx fs = some s ∧ Q (.str s) H
theorem call_reprOwn {X : Cx} {c : Str} {fa : Addr} {tx : List (Str × V) → Option Str} {k : Nat} (hdp : X.A.depth + 3 * k + 5 < recursionLimit) (hu : X.A.units + 1 < cLine) (ho : OwnAt X.K c "__repr__" fa) (F : FnC X.prog X.w X.K X.mg X.base C8.CX0 k fa (spText X.K c tx)) :
    CallR X (.builtin "repr") (fun xs H Q => ∃ a dx fs s, xs = [.ref a] ∧ H a = some (.ins (He.ga X.K c) dx fs) ∧ tx fs = some s ∧ Q (.str s) H) := by
  intro pins s σ H xs us Q I r h
  obtain ⟨a, dx, fs, t, rfl, ha, ht, q⟩ := h
  obtain ⟨u, rfl, ru⟩ := r.one
  cases (show u = Value.ref a from ru)
  obtain ⟨ox, od, J⟩ := inst_at I ha
  obtain ⟨m, hF⟩ := I.fr
  refine PySem.W.repr_K (A := X.A) hu hF I.ok.mod.kin J ho.hs ho.hf (wpAny_call (codeAny_mono (F X.A.in1 X.stack s H [.ref a] [.ref a] (fun v H' => v = .str t ∧ Q v H') C8.E0 hdp I.env0.in1 (.cons rfl .nil) ⟨a, dx, fs, t, rfl, ha, ht, rfl, q⟩) fun r s' z => ?_))
  match r, z with
  | .error e, z => exact (show False from z).elim
  | .ok .next, z => exact z.elim
  | .ok .brk, z => exact z.elim
  | .ok .cont, z => exact z.elim
  | .ok (.ret u), z =>
    obtain ⟨v, H', J', rv, ev, q'⟩ := I.after (Q := fun v H' => v = .str t ∧ Q v H') z
    subst ev
    obtain ⟨tk, rfl⟩ := (show ∃ tk, u = Value.str t tk from rv)
    exact ⟨.str t, H', J', ⟨tk, rfl⟩, q'⟩
theorem call_reprE {X : Cx} (hgd : X.A.guards = some []) (hu : X.A.units + 64 < cLine) : CallR X (.builtin "repr") (fun xs H Q => ∃ a, xs = [.ref a] ∧ H a = some (.dK []) ∧ Q (.str (PyData.shown (.dict []))) H) := by
  intro pins s σ H xs us Q I r h
  obtain ⟨a, rfl, ha, q⟩ := h
  obtain ⟨u, rfl, ru⟩ := r.one
  cases (show u = Value.ref a from ru)
  obtain ⟨_, ns, vs, kv, o, es, ep, ho, ex, hd, _, hp, _⟩ := (show ObjOk X.prog X.w H s.heap a (.dK []) from I.hok a _ ha)
  cases kv
  have he : es.toList = [] := by
    have := hp.length
    cases e : es.toList with
    | nil => rfl
    | cons x y => rw [e] at this; cases this
  have rd : Reads s.heap (.ref a) (.dict []) (a :: [] ++ []) := .dict ho ex.1 hd (by rw [he]; exact .nil) (by rw [he]; exact .nil)
  have as : a ≠ sysModules := fun z => by
    rw [z] at ns
    simp at ns
  refine repr_of_reads' rd rfl (fun _ hm => ?_) hgd (by show _ + (0 + 1 + 1) < _; omega) (fun _ _ z => z) (fun h' tk t' kp => ⟨.str _, H, I.kept kp, ⟨tk, rfl⟩, q⟩) (by rw [sizeLine_eq]; decide +kernel)
  simp at hm
  exact as hm.symm
end DL
namespace DL
open PySem PySem.Spec PyProof.Rows L2
/-! ### tables of code objects -/
theorem tabs_ok (Tb : List (Addr × Str)) : TOk (LamX.Tabs Tb) := fun H H' k t p hp => by
  obtain ⟨ps, h1, h2, h3⟩ := t p hp
  refine ⟨ps, (k _ _ h1).resolve_right fun z => z.1 ps rfl, h2, fun pos cv hc => ?_⟩
  obtain ⟨c, e1, e2⟩ := h3 pos cv hc
  exact ⟨c, e1, (k _ _ e2).resolve_right fun z => z.2 _ rfl⟩
theorem ext_lam {Tb : List (Addr × Str)} {rg : Addr} {M : List Addr} {H H1 : Hp} (hm : rg ∈ M) (l : Live H M) (e : LamX.ExtN H H1) (t : LamX.Tabs Tb H1) : Ext (LamX.Tabs Tb) rg H H1 := by
  obtain ⟨o, h, n⟩ := l rg hm
  refine ⟨fun b o _ nt h => e b o h nt, fun o' h' => ?_, fun _ => t, fun b o nt h => ⟨o, e b o h nt, nt⟩⟩
  rw [h] at h'
  cases h'
  exact ⟨o, e rg o h n, fun z => z, fun z => z⟩
/-! ### texts of values -/
def ratioText (a b : Int) : Str := (((Str.empty ++ "Ratio(") ++ Str.ofString (toString a)) ++ ", ") ++ Str.ofString (toString b) ++ ")"
def txV (fs : List (Str × V)) : Option Str := match fs.lookup ("own_top" : Str), fs.lookup ("own_bottom" : Str) with
  | some (.int a), some (.int b) => if a.natAbs.log2 < 1900 ∧ b.natAbs.log2 < 1900 then some (ratioText a b) else none
  | _, _ => none
def DatOk (p : PyData) : Prop := p.showable = true ∧ p.hasDict = false ∧ p.depth ≤ 50 ∧ p.shown.length ≤ sizeLine
/-- the text that repr gives -/
def RTx (K : PySem.W.Frag) (H : Hp) (v : V) (s : Str) : Prop := (∃ p, Dp K H v p ∧ DatOk p ∧ s = p.shown) ∨ (∃ a dx fs, v = .ref a ∧ H a = some (.ins (He.ga K "Ratio") dx fs) ∧ txV fs = some s) ∨ ∃ a, v = .ref a ∧ H a = some (.dK []) ∧ s = PyData.shown (.dict [])
theorem call_reprD {X : Cx} (hgd : X.A.guards = some []) (hu : X.A.units + 64 < cLine) : CallR X (.builtin "repr") (fun xs H Q => ∃ v p, xs = [v] ∧ Dp X.K H v p ∧ DatOk p ∧ Q (.str p.shown) H) := by
  intro pins s σ H xs us Q I r h
  obtain ⟨v, q, rfl, dp, ⟨hs, hdt, hdp, hsz⟩, hP⟩ := h
  obtain ⟨u, rfl, ru⟩ := r.one
  obtain ⟨as, rd⟩ := Dp.reads I q _ _ dp ru
  have fin : ∀ h' tk t', (∀ b o, s.heap.get? b = some o → h'.get? b = some o) → EP X pins σ Q (.str q.shown tk) { s with heap := h', toks := t' } := fun h' tk t' kp => ⟨.str q.shown, H, I.kept kp, ⟨tk, rfl⟩, hP⟩
  have nd : q.hasDict = true → sysModules ∉ as := fun z => by rw [hdt] at z; cases z
  have tok : ∀ (m : Str) (u : Value), u = .str m s.toks → m = q.shown → EP X pins σ Q u { s with toks := s.toks + 1 } := fun m u e1 e2 => by
    rw [e1, e2]
    exact ⟨.str q.shown, H, I.tok _, ⟨s.toks, rfl⟩, hP⟩
  cases rd with
  | none => exact PySem.P.repr_of_none (tok _ _ rfl (by rw [PyData.shown_none]))
  | bool b => exact PySem.P.repr_of_bool (tok _ _ rfl (by rw [PyData.shown_bool]))
  | int i t => exact PySem.P.repr_of_int (by simpa [PyData.showable] using hs) (tok _ _ rfl (by rw [PyData.shown_int]))
  | str x t => exact PySem.P.repr_of_str (tok _ _ rfl (by rw [PyData.shown_str])) (by rw [PyData.shown_str] at hsz; exact hsz)
  | list e1 e2 e3 e4 => exact repr_of_reads' (.list e1 e2 e3 e4) hs nd hgd (by omega) (fun _ _ z => z) (fun h' tk t' kp => fin h' tk t' kp) hsz
  | tuple e1 e2 e3 e4 => exact repr_of_reads' (.tuple e1 e2 e3 e4) hs nd hgd (by omega) (fun _ _ z => z) (fun h' tk t' kp => fin h' tk t' kp) hsz
  | _ => simp [PyData.hasDict] at hdt
/-- what repr asks of Ratio.__repr__ -/
structure RepK (P : Program) (w : World) (K : PySem.W.Frag) (mg : Str → Option Value) (base : Heap) : Prop where
  ex : ∃ fa, OwnAt K "Ratio" "__repr__" fa ∧ FnC P w K mg base C8.CX0 1 fa (spText K "Ratio" txV)
theorem call_reprAll {X : Cx} (hgd : X.A.guards = some []) (hu : X.A.units + 64 < cLine) (hdp : X.A.depth + 8 < recursionLimit) (R : RepK X.prog X.w X.K X.mg X.base) : CallR X (.builtin "repr") (fun xs H Q => ∃ v s, xs = [v] ∧ RTx X.K H v s ∧ Q (.str s) H) := by
  obtain ⟨fa, ho, F⟩ := R.ex
  intro pins s σ H xs us Q I r h
  obtain ⟨v, t, rfl, h, q⟩ := h
  rcases h with ⟨p, h1, h2, rfl⟩ | ⟨a, dx, fs, rfl, h1, h2⟩ | ⟨a, rfl, h1, rfl⟩
  · exact call_reprD hgd hu pins s σ H _ us Q I r ⟨v, p, rfl, h1, h2, q⟩
  · exact call_reprOwn (k := 1) hdp (by omega) ho F pins s σ H _ us Q I r ⟨a, dx, fs, t, rfl, h1, h2, q⟩
  · exact call_reprE hgd hu pins s σ H _ us Q I r ⟨a, rfl, h1, q⟩
/-- told over D -/
def txD (fs : List (Str × D)) : Option Str := match fs.lookup ("own_top" : Str), fs.lookup ("own_bottom" : Str) with
  | some (.int a), some (.int b) => if a.natAbs.log2 < 1900 ∧ b.natAbs.log2 < 1900 then some (ratioText a b) else none
  | _, _ => none
inductive RtD : D → Str → Prop
  | dat {d : D} {p : PyData} : dat d = some p → DatOk p → RtD d p.shown
  | own {fs : List (Str × D)} {s : Str} : txD fs = some s → RtD (.obj "Ratio" fs) s
  | dct : RtD .dct0 (PyData.shown (.dict []))
theorem RtD.v {K : PySem.W.Frag} {rg : Addr} {M : List Addr} {H : Hp} {d : D} {v : V} {s : Str} (h : RtD d s) (r : Rep K rg M H d v) : RTx K H v s := by
  cases h with
  | dat h1 h2 => exact .inl ⟨_, r.dp h1, h2, rfl⟩
  | dct => cases r with
    | dct0 n e => exact .inr (.inr ⟨_, rfl, e, rfl⟩)
  | own h =>
    cases r with
    | obj n e q =>
      refine .inr (.inl ⟨_, _, _, rfl, e, ?_⟩)
      unfold txD at h
      split at h
      · rename_i a b ea eb
        obtain ⟨va, e1, r1⟩ := q.lookup ea
        obtain ⟨vb, e2, r2⟩ := q.lookup eb
        unfold txV
        rw [e1, e2, r1.int_v, r2.int_v]
        exact h
      · cases h
@[irreducible] def fReprA : FB
  | [d], Q => ∃ s, RtD d s ∧ Q (.str s)
  | _, _ => False
theorem cd_reprA {X : Cx} {T : Hp → Prop} (hgd : X.A.guards = some []) (hu : X.A.units + 64 < cLine) (hdp : X.A.depth + 8 < recursionLimit) (R : RepK X.prog X.w X.K X.mg X.base) : CallD X T (.builtin "repr") fReprA := cd_flat (call_reprAll hgd hu hdp R) fun rg M H ds vs P Q hm r hf q => by
  unfold fReprA at hf
  split at hf
  · obtain ⟨s, h1, h2⟩ := hf
    cases r with
    | cons a b => cases b; exact ⟨_, s, rfl, h1.v a, q _ h2 _ (.str _)⟩
  · exact hf.elim
/-- the walk of Ratio.__repr__ -/
theorem repr_walk {P : Program} {w : World} {K : PySem.W.Frag} {mg : Str → Option Value} {base : Heap} {qual : Str} {params : Arguments} {body : List Stmt} {scope : Scope} {fa : Addr} {a1 a2 a3 a4 a5 a6 a7 a8 a9 : Pos} {j1 j2 j3 : Nat} {p1 p2 p3 : Pos} (cl : Cls K (He.ga K "Ratio")) (n1 : NoAttr K (He.ga K "Ratio") "own_top") (n2 : NoAttr K (He.ga K "Ratio") "own_bottom")
    (ho : OwnAt K "Ratio" "__repr__" fa) (Fd : ∃ fd, FunD K "__repr__" qual params body scope [] [] fa fd) (S : FnScope ["self"] ["self"] scope)
    (hb : body = [.Return (some (.JoinedStr [.Constant (.str "Ratio(") j1 p1, .FormattedValue (.Attribute (.Name "self" a1) "own_top" a2) (-1) none a3, .Constant (.str ", ") j2 p2, .FormattedValue (.Attribute (.Name "self" a4) "own_bottom" a5) (-1) none a6, .Constant (.str ")") j3 p3] a7)) a8])
    (bi : ∀ (kV doc pm : Value) (an : Option Addr) (cdv ct : Value) (us : List Value), us.length = 1 → bindArgs (PySem.W.fnOf "__repr__" qual params body scope .none kV doc pm an cdv ct) ⟨us, []⟩ = pure ((["self"] : List Str).zip us)) : RepK P w K mg base := by
  refine ⟨fa, ho, ?_⟩
  obtain ⟨fd, F⟩ := Fd
  have bind := F.bindsN (ps := ["self"]) bi
  obtain ⟨oc, od, dV, kV, doc, pm, an, cdv, ct, osl, rfl, lk, hcd, _, _⟩ := F.ex
  subst hb
  intro A outer s H us vs Q E hdp e0 r h
  obtain ⟨a, dx, fs, t, rfl, ha, ht, q⟩ := h
  have hl : us.length = 1 := by rw [← r.length]; rfl
  have b := bind s us (e0.mod.kin.keeps fun b o e => (e0.bs b o e).1) (by rw [List.append_nil]; exact hl)
  rw [List.append_nil] at b
  refine run_cool lk hcd S (by omega) e0 b r rfl ?_
  have v0 : Vis scope "self" := (S.par "self" (List.Mem.head _)).elim .inl fun z => .inr (.inl z)
  refine ⟨_, pss_one (ps_ret (pe_joined (.cons pe_str (.cons (pe_fmt (pe_fld (pe_var (i := 0) rfl v0 (by decide) (by decide)) rfl)) (.cons pe_str (.cons (pe_fmt (pe_fld (pe_var (i := 0) rfl v0 (by decide) (by decide)) rfl)) (.cons pe_str .nil))))))), ?_⟩
  unfold txV at ht
  split at ht
  · rename_i x y ex ey
    split at ht
    · rename_i hxy
      cases ht
      have l1 := int_text_length_le (a := x) (k := 1900) (by decide) hxy.1
      have l2 := int_text_length_le (a := y) (k := 1900) (by decide) hxy.2
      have lx : (Str.ofString (toString x)).length ≤ 1901 := by rw [PySem.ofString_length]; exact l1
      have ly : (Str.ofString (toString y)).length ≤ 1901 := by rw [PySem.ofString_length]; exact l2
      have k1 : (("Ratio(" : String) : Str).length = 6 := by decide +kernel
      have k2 : ((", " : String) : Str).length = 2 := by decide +kernel
      have k3 : ((")" : String) : Str).length = 1 := by decide +kernel
      have k0 : Str.empty.length = 0 := rfl
      have big : sizeLine = 16777216 := sizeLine_eq
      refine ⟨_, rfl, by rw [strLen_append]; omega, ?_⟩
      refine ⟨_, rfl, a, _, dx, fs, _, rfl, ha, cl, n1, ex, .inr ⟨x, rfl, by omega, ?_⟩⟩
      refine ⟨_, rfl, by rw [strLen_append, strLen_append]; omega, ?_⟩
      refine ⟨_, rfl, by rw [strLen_append, strLen_append, strLen_append]; omega, ?_⟩
      refine ⟨_, rfl, a, _, dx, fs, _, rfl, ha, cl, n2, ey, .inr ⟨y, rfl, by omega, ?_⟩⟩
      refine ⟨_, rfl, by rw [strLen_append, strLen_append, strLen_append, strLen_append]; omega, ?_⟩
      exact ⟨_, rfl, by rw [strLen_append, strLen_append, strLen_append, strLen_append, strLen_append]; omega, q⟩
    · cases ht
  · cases ht
end DL
namespace DL
open PySem PySem.Spec PyProof.Rows L2
/-! ### told: what a lambda raises, as a list of texts -/
/-- one clause: the class, and how its fields become the list's items behind the first text: as they are, or as texts -/
inductive Itm where
  | fld (f : Str) | txt (f : Str)
structure Cla where
  c : Str
  head : Str
  its : List Itm
/-- the items' values -/
inductive ItmsV (K : PySem.W.Frag) (H : Hp) (fs : List (Str × V)) : List Itm → List V → Prop
  | nil : ItmsV K H fs [] []
  | fld {f : Str} {v : V} {r : List Itm} {vs : List V} : fs.lookup f = some v → ItmsV K H fs r vs → ItmsV K H fs (.fld f :: r) (v :: vs)
  | txt {f : Str} {v : V} {s : Str} {r : List Itm} {vs : List V} : fs.lookup f = some v → RTx K H v s → ItmsV K H fs r vs → ItmsV K H fs (.txt f :: r) (.str s :: vs)
/-- what the clauses wish -/
def WishV (K : PySem.W.Frag) (l : List Cla) (Q : VK) (cls : Value) (dd : Option Addr) (H : Hp) : Prop :=
  ∃ q ∈ l, cls = .ref (He.ga K q.c) ∧ ∃ dx fs vs, dd = some dx ∧ H dx = some (.xd fs) ∧ ItmsV K H fs q.its vs ∧ ∀ p, H p = none → Q (.ref p) (upd H p (.lst (.str q.head :: vs)))
def TTold (K : PySem.W.Frag) (l : List Cla) : (XK → Hp → VK → Prop) → Hp → VK → Prop := fun tl H Q => ∀ HZ, (∀ b o, H b = some o → HZ b = some o) → ∃ E' : XK, (∀ cls dd H', E' cls dd H' → WishV K l Q cls dd H') ∧ ∀ Q', tl E' HZ Q'
/-- the reading of an item in the suite of the clause that caught e -/
def tItm (K : PySem.W.Frag) (e : Addr) (cls : Value) (dd : Option Addr) (C : Addr) : List Itm → TA
  | [] => tNil
  | .fld f :: r => tCons (tXf e cls dd C f (tVar 2)) (tItm K e cls dd C r)
  | .txt f :: r => tCons (tCB (fun xs H Q => ∃ v s, xs = [v] ∧ RTx K H v s ∧ Q (.str s) H) (tCons (tXf e cls dd C f (tVar 2)) tNil)) (tItm K e cls dd C r)
def tSui (K : PySem.W.Frag) (q : Cla) : Sui := fun e cls dd => tAsg (tLst (tCons (tC (.str q.head)) (tItm K e cls dd (He.ga K q.c) q.its))) (gName 1)
theorem itm_go {K : PySem.W.Frag} {e dx C : Addr} {σ : L2.St} {H : Hp} {fs : List (Str × V)} (h2 : σ[2]? = some (some (.ref e))) (hd : H dx = some (.xd fs)) : ∀ {l : List Itm} {vs : List V} {Q : List V → Hp → Prop}, ItmsV K H fs l vs → Q vs H → tItm K e (.ref C) (some dx) C l σ H Q
  | [], _, Q, .nil, q => q
  | _ :: r, _, Q, .fld h t, q => ⟨_, h2, rfl, rfl, dx, fs, _, rfl, hd, h, itm_go h2 hd t q⟩
  | _ :: r, _, Q, .txt h h3 t, q => ⟨_, h2, rfl, rfl, dx, fs, _, rfl, hd, h, _, _, rfl, h3, itm_go h2 hd t q⟩
theorem itms_len {K : PySem.W.Frag} {H : Hp} {fs : List (Str × V)} : ∀ {l : List Itm} {vs : List V}, ItmsV K H fs l vs → vs.length = l.length
  | _, _, .nil => rfl
  | _, _, .fld _ t => congrArg (· + 1) (itms_len t)
  | _, _, .txt _ _ t => congrArg (· + 1) (itms_len t)
/-- the clauses' wishes, from what is known of the exception -/
theorem wish_named {K : PySem.W.Frag} {Q : VK} {cls : Value} {dd : Option Addr} {H : Hp} {D : Ends} : ∀ {l : List Cla}, (∀ (i j : Nat) (a b : Cla), l[i]? = some a → l[j]? = some b → PySem.W.exmOne K (.ref (He.ga K a.c)) (.ref (He.ga K b.c)) = some (decide (i = j))) → (∀ q ∈ l, q.its.length ≤ 100) →
    WishV K l Q cls dd H → (∀ (τ : L2.St) (p : Addr) (J : Hp), τ[1]? = some (some (.ref p)) → Q (.ref p) J → D.nx τ J) → ∀ σ, wNamed K 3 D (l.map fun q => (.ref (He.ga K q.c), 2, tSui K q)) cls dd σ H := by
  intro l
  induction l with
  | nil =>
    rintro _ _ ⟨q, hq, _⟩ _ σ
    exact absurd hq (by simp)
  | cons q r ih =>
    intro hx hz hw hD σ hl
    obtain ⟨q', hq', hcls, dx, fs, vs, hdd, hH, hv, hQ⟩ := hw
    subst hcls hdd
    obtain ⟨j, hj⟩ := List.getElem?_of_mem hq'
    have e0 := hx j 0 q' q hj rfl
    refine ⟨_, e0, fun hy e he => ?_, fun hn => ?_⟩
    · have j0 : j = 0 := of_decide_eq_true hy
      subst j0
      cases hj
      have l2 : (σ.set 2 (some (V.ref e)))[2]? = some (some (V.ref e)) := List.getElem?_set_self (by omega)
      show tItm K e (.ref (He.ga K q.c)) (some dx) (He.ga K q.c) q.its (σ.set 2 (some (.ref e))) H _
      refine itm_go l2 hH hv ?_
      have h100 := hz q List.mem_cons_self
      have hvl := itms_len hv
      refine ⟨by rw [List.length_cons, hvl, sizeLine_eq]; omega, fun p hp => ?_⟩
      refine hD _ p _ ?_ (hQ p hp)
      rw [List.getElem?_set_ne (show (2 : Nat) ≠ 1 by decide), List.getElem?_set_self (by rw [List.length_set]; omega)]
    · have j0 : j ≠ 0 := of_decide_eq_false hn
      refine ih (fun a b x y ha hb => ?_) (fun x hx' => hz x (List.mem_cons_of_mem _ hx')) ⟨q', ?_, rfl, dx, fs, vs, rfl, hH, hv, hQ⟩ hD σ
      · have := hx (a + 1) (b + 1) x y (by simpa using ha) (by simpa using hb)
        rw [this]
        simp
      · obtain ⟨j', rfl⟩ := Nat.exists_eq_succ_of_ne_zero j0
        exact List.mem_of_getElem? (i := j') (by simpa using hj)
section
variable {X : Cx} {x q : Str} {sg : Scope} {g : Addr} {cdg : Value} {bg : List Stmt} {l : List Cla} {tryS : Stmt}
/-- the def that tells: heard = ['other']; try: heard = ['made', repr(call())] / except ..; return heard -/
theorem gives_told {N : List Str} (hN : N = (["_law_call", "_law_heard", "e"] : List Str)) (S : FnScope N ["_law_call"] sg) (rep : X.mg "repr" = none) (hx : ∀ (i j : Nat) (a b : Cla), l[i]? = some a → l[j]? = some b → PySem.W.exmOne X.K (.ref (He.ga X.K a.c)) (.ref (He.ga X.K b.c)) = some (decide (i = j))) (hz : ∀ q ∈ l, q.its.length ≤ 100)
    {first : ExceptHandler} {rest : List ExceptHandler} {s1 s3 : Stmt} {tbody : List Stmt} {pos : Pos} (hbg : bg = [s1, .Try tbody (first :: rest) [] [] pos, s3])
    (d1 : ∀ s H, PS (cxOf C8.CX0 X.prog X.w X.K X.mg X.base N x sg g cdg X.A X.stack s H C8.E0).nox s1 (tAsg (tLst (tCons (tC (.str "other")) tNil)) (gName 1)))
    (d2 : ∀ s H (pn : List (Addr × Obj)) (xe : Value → Shared → Prop) (tc : TE), (∀ p1 p2, PE ((cxOf C8.CX0 X.prog X.w X.K X.mg X.base N x sg g cdg X.A X.stack s H C8.E0).tr pn xe) (.Call (.Name "_law_call" p1) [] [] p2) tc) →
      PSs ((cxOf C8.CX0 X.prog X.w X.K X.mg X.base N x sg g cdg X.A X.stack s H C8.E0).tr pn xe) tbody (tAsg (tLst (tCons (tC (.str "made")) (tCons (tCB (fun xs H Q => ∃ i : Int, xs = [.int i] ∧ i.natAbs.log2 < 1920 ∧ Q (.str (toString i)) H) (tCons tc tNil)) tNil))) (gName 1)))
    (d3 : ∀ s H, PS (cxOf C8.CX0 X.prog X.w X.K X.mg X.base N x sg g cdg X.A X.stack s H C8.E0).nox s3 (tRet (tVar 1)))
    (dh : ∀ s H, Named (cxOf C8.CX0 X.prog X.w X.K X.mg X.base N x sg g cdg X.A X.stack s H C8.E0).nox (first :: rest) (l.map fun q => (.ref (He.ga X.K q.c), 2, tSui X.K q))) :
    LamX.GivesTo X N x sg g cdg bg "_law_call" q (TTold X.K l) := by
  subst hN hbg
  intro f c' s H Q tl act hc hTT
  have den : ∀ (W : WX) (pn : List (Addr × Obj)) (xe : Value → Shared → Prop), Takes ((cxOf C8.CX0 X.prog X.w X.K X.mg X.base ["_law_call", "_law_heard", "e"] x sg g cdg X.A X.stack s H C8.E0).nox.tr pn xe) W → PassesOwn (model X.prog X.w) (cxOf C8.CX0 X.prog X.w X.K X.mg X.base ["_law_call", "_law_heard", "e"] x sg g cdg X.A X.stack s H C8.E0).A (cxOf C8.CX0 X.prog X.w X.K X.mg X.base ["_law_call", "_law_heard", "e"] x sg g cdg X.A X.stack s H C8.E0).env xe →
      PSs ((cxOf C8.CX0 X.prog X.w X.K X.mg X.base ["_law_call", "_law_heard", "e"] x sg g cdg X.A X.stack s H C8.E0).nox.tr pn xe) tbody (fun D σ H1 => ∃ E' : XK, (∀ cls dd σ' H', E' cls dd H' → W cls dd σ' H') ∧ σ[0]? = some (some (.ref f)) ∧ H1 c' = some (LamX.CodeO c' q) ∧ ∀ Q', tl E' H1 Q') := fun W pn xe tk _ =>
    ⟨fun pins s' σ H1 D I ⟨E', hW, h1, h2, h3⟩ => (d2 s H pn xe _ fun p1 p2 => act W pn xe E' p1 p2 tk hW).run pins s' σ H1 D I ⟨h1, h2, h3 _⟩⟩
  refine ⟨_, pss_cons (d1 s H) (pss_cons (ps_named rfl rfl S.nd den (dh s H)) (pss_one (d3 s H))), ?_⟩
  refine ⟨by rw [sizeLine_eq]; exact (by decide : 1 ≤ 16777216), fun p hp => ?_⟩
  obtain ⟨E', hE, ht⟩ := hTT (upd H p (.lst [.str "other"])) fun b o e => by rw [upd_ne (ne_of_none e hp)]; exact e
  refine ⟨E', fun cls dd σ' H' he => ?_, rfl, by rw [upd_ne (ne_of_none hc hp)]; exact hc, ht⟩
  refine wish_named hx hz (hE cls dd H' he) (fun τ p J h1 hQ => ?_) σ'
  exact ⟨.ref p, h1, hQ⟩
end
end DL
namespace DL
open PySem PySem.Spec PyProof.Rows L2
/-! ### told over D -/
def S.bare : S → S
  | .own _ => .no
  | .new _ _ _ => .no
  | s => s
theorem St.bare {g : G} {K : PySem.W.Frag} {M : List Addr} {σ : L2.St} {H : Hp} {ρ : List S} (s : St g K M σ H ρ) : St ⟨g.T, g.rg, M, H, []⟩ K M σ H (ρ.map S.bare) := by
  have noown : ∀ {i : Nat} {z : S}, (ρ.map S.bare)[i]? = some z → z.isOwn = false := fun {i z} h => by
    rw [List.getElem?_map] at h
    obtain ⟨y, _, rfl⟩ := Option.map_eq_some_iff.mp h
    cases y <;> rfl
  refine ⟨fun _ z => z, s.rgM, s.live, Ext.refl H, s.t, ?_, fun i j a b v _ e1 e2 => ?_, fun a ha => .inl ha, fun _ z => (nomatch z)⟩
  · have go : ∀ {σ : L2.St} {ρ : List S}, Slots K g.rg M g.H0 H σ ρ → Slots K g.rg M H H σ (ρ.map S.bare) := by
      intro σ ρ h
      induction h with
      | nil => exact .nil
      | cons r t ih =>
        refine .cons ?_ ih
        cases r with
        | no => exact .no
        | val r => exact .val r
        | own _ _ _ _ _ => exact .no
        | new _ _ _ _ _ => exact .no
    exact go s.sl
  · rw [noown e1] at e2
    cases e2
inductive ItmsD (fs : List (Str × D)) : List Itm → List D → Prop
  | nil : ItmsD fs [] []
  | fld {f : Str} {d : D} {r : List Itm} {ds : List D} : fs.lookup f = some d → ItmsD fs r ds → ItmsD fs (.fld f :: r) (d :: ds)
  | txt {f : Str} {d : D} {s : Str} {r : List Itm} {ds : List D} : fs.lookup f = some d → RtD d s → ItmsD fs r ds → ItmsD fs (.txt f :: r) (.str s :: ds)
theorem ItmsD.v {K : PySem.W.Frag} {rg : Addr} {M : List Addr} {H : Hp} {fs : List (Str × D)} {vs : List (Str × V)} (rf : RepF K rg M H fs vs) : ∀ {l : List Itm} {ds : List D}, ItmsD fs l ds → ∃ ws, ItmsV K H vs l ws ∧ Reps K rg M H ds ws
  | _, _, .nil => ⟨[], .nil, .nil⟩
  | _, _, .fld h t => by
    obtain ⟨ws, h1, h2⟩ := ItmsD.v rf t
    obtain ⟨v, e, r⟩ := rf.lookup h
    exact ⟨_, .fld e h1, .cons r h2⟩
  | _, _, .txt h h3 t => by
    obtain ⟨ws, h1, h2⟩ := ItmsD.v rf t
    obtain ⟨v, e, r⟩ := rf.lookup h
    exact ⟨_, .txt e (h3.v r) h1, .cons (.str _) h2⟩
def TellsD (l : List Cla) (Q : D → Prop) (x : D) : Prop := ∃ q ∈ l, ∃ fs ds, x = .obj q.c fs ∧ ItmsD fs q.its ds ∧ Q (.lst (.str q.head :: ds))
def wTold (l : List Cla) (w : (D → Prop) → WE) : WE := fun ρ Q => w (TellsD l Q) (ρ.map S.bare) (fun _ => False)
section
variable {X : Cx}
theorem d_told {g : G} {Tb : List (Addr × Str)} {l : List Cla} {w : (D → Prop) → WE} {x : Str} {gf c P : Addr} {k : Nat} {pg : Arguments} {bg : List Stmt} {sg : Scope} {dV kV doc pm cdv ct oc : Value} {an od : Option Addr} {osl : Array (Option Value)} {Ng : List Str}
    {params : Arguments} {body : Expr} {scope : Scope} {p lpos pos : Pos} (hgT : g.T = LamX.Tabs Tb) (hg : Gl X x) (hm : X.mg x = some (.ref gf)) (hk : PySem.W.keepIn X.K (.ref gf) = true)
    (lk : X.K.lookup gf = some ⟨oc, od, .func (PySem.W.fnOf x x pg bg sg dV kV doc pm an cdv ct), osl⟩) (hcg : PySem.W.codeIn X.K cdv x = true) (hb : L2.Binds X.K (PySem.W.fnOf x x pg bg sg dV kV doc pm an cdv ct) ["_law_call"] []) (Sg : FnScope Ng ["_law_call"] sg) (hNg : Ng[0]? = some ("_law_call" : Str)) (hva : Vis sg "_law_call")
    (hG : LamX.GivesTo X Ng x sg gf cdv bg "_law_call" (X.env.qual ++ "<lambda>") (TTold X.K l))
    (TB : LamX.TabB X.base X.mg c P) (hcode : X.env.code = .ref c) (hmT : (P, X.env.qual ++ "<lambda>") ∈ Tb) (hu : ∀ p ∈ Tb, p.1 = P → p.2 = X.env.qual ++ "<lambda>") (hr : Room (k + 2) X.A) (L : LamX.LamS X.env.scope scope) (hdef : defaultsOf params X.env = ([], []))
    (hbind : ∀ (q : Str) (cl : List (Str × Addr)) (pm cv ctv : Value), bindArgs (PySem.W.kla_fn "<lambda>" q params body scope cl pm cv ctv) ⟨[], []⟩ = pure [])
    (hbody : ∀ (A : Around) (outer : List Env) (s : Shared) (H : Hp) (E : XK) (f c' : Addr) (g' : G) (EW : D → Prop), g'.T = g.T → BD (LamX.lamCx X A outer s H E scope f c') g' k EW → PE (LamX.lamCx X A outer s H E scope f c') body (liftE g' X.K (w EW)))
    (hdb : (x == ("__debug__" : Str)) = false := by decide) : PE X (.Call (.Name x p) [.Lambda params body scope lpos] [] pos) (liftE g X.K (wTold l w)) := by
  have hTok : TOk g.T := by rw [hgT]; exact tabs_ok Tb
  refine pe_imp (LamX.pe_lamcall (T := Tb) (TT := TTold X.K l) (k := k) (t := fun E σ H Q => ∃ (g' : G) (EW : D → Prop), g'.T = g.T ∧ (∀ cls dd H', liftX g'.T g'.rg g'.M0 g'.H0 X.K EW cls dd H' → E cls dd H') ∧ liftE g' X.K (w EW) σ H Q)
    hg hm hk lk hcg hb Sg hNg hva hG TB hcode hmT hu hr L hdef hbind (fun A outer s H E f c' hr' => ⟨fun pins sh σ H1 Q I ⟨g', EW, hT', hE, h⟩ => ?_⟩) hdb) ?_
  · have tk : Takes (LamX.lamCx X A outer s H E scope f c') (fun cls d _ H' => E cls d H') := takes_of rfl rfl rfl rfl
    exact (hbody A outer s H E f c' g' EW hT' ⟨hr', passes_call tk fun cls d _ H' z => hE cls d H' z, Takes.imp tk fun cls d (σ : L2.St) H' z => hE cls d H' z, by rw [hT']; exact hTok⟩).run pins sh σ H1 Q I h
  · rintro σ H Q ⟨M, ρ, P0, s, h, q⟩
    refine ⟨by rw [← hgT]; exact s.t, fun H1 eN t1 HZ sub => ?_⟩
    have e1 : Ext g.T g.rg H H1 := by
      rw [hgT]
      exact ext_lam s.rgM s.live eN t1
    have s1 := (s.mono e1).mono (ext_sub (rg := g.rg) hTok sub)
    refine ⟨liftX g.T g.rg M HZ X.K (TellsD l P0), ?_, fun Q' => ⟨⟨g.T, g.rg, M, HZ, []⟩, _, rfl, fun _ _ _ z => z, M, ρ.map S.bare, fun _ => False, s1.bare, h, fun _ z => z.elim⟩⟩
    rintro cls dd H' ⟨y, ⟨c0, fs, dx, vs, rfl, rfl, rfl, hd, rf⟩, ext, q', hq', fs', ds, hx, hi, hP⟩
    cases hx
    obtain ⟨ws, iv, rs⟩ := ItmsD.v rf hi
    refine ⟨q', hq', rfl, dx, vs, ws, rfl, hd, iv, fun p hp => ?_⟩
    have l' := s1.live.mono ext
    exact q _ hP _ _ (((e1.trans (ext_sub hTok sub)).trans ext).trans (ext_new hTok l' s.rgM hp)) (rep_lst hTok l' s.rgM hp (.cons (.str _) rs))
end
end DL
namespace DL
open PySem PySem.Spec PyProof.Rows L2
/-! ### a def that makes lambdas: its code object is known -/
section
variable {P : Program} {w : World} {K : PySem.W.Frag} {mg : Str → Option Value} {base : Heap} {x qual nm : Str} {params : Arguments} {body : List Stmt} {scope : Scope} {fd : FuncData} {N ps : List Str} {k : Nat} {T : Hp → Prop} {f : F}
theorem fnG_ofT (Fd : FunD K x qual params body scope [] [] (He.ga K nm) fd) (S : FnScope N ps scope) (hb : Binds K fd ps []) (len : ∀ ds Q R, f ds Q R → ds.length = ps.length) (hT : TOk T)
    (hbody : ∀ (A : Around) (outer : List Env) (s : Shared) (H : Hp) (E : XK) (g : G) (EW : D → Prop) (ds : List D) (Q : D → Prop), g.T = T → A.guards = some [] → BD (cxOf (L2.CX P w) P w K mg base N qual scope (He.ga K nm) (.ref (He.codeOf K (nm, none))) A outer s H E) g k EW → f ds Q EW →
      ∃ ws, PSs (cxOf (L2.CX P w) P w K mg base N qual scope (He.ga K nm) (.ref (He.codeOf K (nm, none))) A outer s H E) body (liftS g K ws) ∧ ws { nx := fun _ => Q .non, rt := Q } (startD N ds)) : FnG P w K mg base (L2.CX P w) (k + 1) (He.ga K nm) (spD T K f) := by
  obtain ⟨oc, od, dV, kV, doc, pm, an, cdv, ct, osl, rfl, lk, hcd, _, _⟩ := Fd.ex
  obtain ⟨cc, rfl⟩ := He.codeIn_ref hcd
  have hc : He.codeOf K (nm, none) = cc := He.codeOf_eq (p := (nm, none)) lk rfl
  intro A outer s H us vs Q E hg hr e0 r h
  have hl : vs.length = ps.length := by
    obtain ⟨rg, M, ds, P0, R, h1, h2, h3, h4, h5, _⟩ := h
    rw [← h4.length, len _ _ _ h5]
  have hl2 : us.length = ps.length := by rw [← r.length, hl]
  have b := hb s us (e0.mod.kin.keeps fun b o e => (e0.bs b o e).1) (by rw [List.append_nil]; exact hl2)
  rw [List.append_nil] at b
  refine LamX.run_ofS lk hcd S hr e0 b r hl fun hr' => ?_
  have B : BodyD P w K mg base N qual scope (He.ga K nm) body k T (A.guards = some []) f → True := fun _ => trivial
  obtain ⟨rg, M, ds, P0, R, h1, h2, h3, h4, h5, h6, h7⟩ := h
  have hW : ∀ (cls : Value) (d : Option Addr) (σ : L2.St) (H' : Hp), liftX T rg M H K R cls d H' → E cls d H' := fun cls d σ H' ⟨x, hx, hext, hR⟩ => h7 x hR H' cls d hext hx
  have tk : Takes (cxOf (L2.CX P w) P w K mg base N qual scope (He.ga K nm) (.ref cc) A outer s H E) (fun cls d _ H' => E cls d H') := takes_of rfl rfl rfl rfl
  have hbody := hbody A outer s H E ⟨T, rg, M, H, []⟩ R ds P0 rfl hg
  rw [hc] at hbody
  obtain ⟨ws, hd, hw⟩ := hbody ⟨hr', passes_call tk hW, Takes.imp tk (fun c d (σ : L2.St) H' z => hW c d σ H' z), hT⟩ h5
  have s0 : Slots K rg M H H (L2.start N vs) (startD N ds) := by
    unfold L2.start startD
    rw [← h4.length]
    exact slots_vals h4 _ _ (slots_no _)
  have ap : Apart (L2.start N vs) (startD N ds) := fun i j s1 t1 v1 _ e1 e2 => by
    rw [noown_start e1] at e2
    cases e2
  exact ⟨_, hd, M, startD N ds, _, ⟨fun _ z => z, h1, h2, Ext.refl H, h3, s0, ap, fun a ha => .inl ha, fun _ z => (nomatch z)⟩, hw, ⟨fun ρ' hq σ' H' M' s' => h6 _ hq H' _ s'.ext .non, h6, fun _ z => z.elim, fun _ z => z.elim⟩⟩
end
end DL
namespace DL
open PySem PySem.Spec PyProof.Rows L2
theorem d_dct0 {X : Cx} {g : G} {pos : Pos} (hT : TOk g.T) : PE X (.Dict [] [] pos) (liftE g X.K (wC .dct0)) := pe_imp pe_dnewK fun σ H Q h => by
  obtain ⟨M, ρ, P, s, h, q⟩ := h
  exact fun p hp => q _ h _ _ (ext_new hT s.live s.rgM hp) (.dct0 (s.live.new hp) upd_same)
end DL
namespace DL
open PySem PySem.Spec PyProof.Rows L2
/-! what the law's own defs do -/
/-- a fraction, a row of a move -/
def tq (q : Rat) : D := .tup [.int q.num, .int (q.den : Int)]
def MvR.row (m : MvR) : DL.D := .tup [.int m.d, tq m.p, tq m.l, tq m.h]
@[irreducible] def f_law_choice : F := fun ds Q _ => ∃ xs : List D, ds = [.rng, .lst xs] ∧ xs ≠ [] ∧ xs.length < 2 ^ 40 ∧ ∀ d ∈ xs, Q d
@[irreducible] def f_law_plain : F := fun ds Q _ => ∃ a b : Int, ds = [.int a, .int b] ∧ b ≠ 0 ∧ a.natAbs < 2 ^ 8500 ∧ b.natAbs < 2 ^ 8500 ∧ Q (tq (Rat.divInt a b))
@[irreducible] def f_law_sum : F := fun ds Q _ => ∃ q r : Rat, ds = [tq q, tq r] ∧ Sz 4000 q ∧ Sz 4000 r ∧ Q (tq (q + r))
@[irreducible] def f_law_less : F := fun ds Q _ => ∃ q r : Rat, ds = [tq q, tq r] ∧ Sz 4000 q ∧ Sz 4000 r ∧ Q (.bl (decide (q < r)))
@[irreducible] def f_law_fraction : F := fun ds Q _ => ∃ u : Unit, ds = [.rng] ∧ ∀ q, Gd q → Q (tq q)
@[irreducible] def f_law_real : F := fun ds Q _ => ∃ q : Rat, ds = [.rng, tq q] ∧ Sz 4000 q ∧ ∀ d, Nm q d → Q d
@[irreducible] def f_law_is : F := fun ds Q _ => ∃ q : Rat, ds = [ro q, tq q] ∧ Sz 1900 q ∧ Q (.bl true)
@[irreducible] def f_law_over : F := fun ds Q _ => ∃ q r : Rat, ds = [tq q, tq r] ∧ Sz 4000 q ∧ Sz 4000 r ∧ r ≠ 0 ∧ Q (tq (q / r))
@[irreducible] def f_law_move : F := fun ds Q _ => ∃ u : Unit, ds = [.rng] ∧ ∀ m : MvR, m.Good → Q m.row
@[irreducible] def f_law_at : F := fun ds Q _ => ∃ (m : MvR) (x : Rat), ds = [m.row, tq x] ∧ m.Ok ∧ Sz 1900 x ∧ Q (tq (m.pt x))
@[irreducible] def f_law_made : F := fun ds Q _ => ∃ m : MvR, ds = [.rng, m.row] ∧ m.Ok ∧ Q m.D
@[irreducible] def f_law_is_move : F := fun ds Q _ => ∃ m : MvR, ds = [m.D, m.row] ∧ m.d.natAbs < 2 ^ 1900 ∧ Sz 1900 m.p ∧ Sz 1900 m.l ∧ Sz 1900 m.h ∧ Q (.bl true)
@[irreducible] def f_law_near : F := fun ds Q _ => ∃ m : MvR, ds = [.rng, m.row] ∧ m.Ok ∧ m.d.natAbs < 2 ^ 20 ∧ Sz 400 m.p ∧ Sz 400 m.l ∧ Sz 400 m.h ∧ ∀ xs : List Rat, xs ≠ [] → xs.length ≤ 10 → (∀ x ∈ xs, Sz 1000 x) → Q (.lst (xs.map tq))
@[irreducible] def f_law_then : F := fun ds Q _ => ∃ m n : MvR, ds = [m.row, n.row] ∧ m.Ok ∧ n.Ok ∧ Q (m.th n).row
@[irreducible] def f_law_raised : F := fun ds Q _ => ∃ (m : MvR) (n : Int), ds = [m.row, .int n] ∧ m.Ok ∧ Sz 600 m.p ∧ 1 ≤ n ∧ n.natAbs < 2 ^ 300 ∧ Q (m.added n).row
@[irreducible] def f_law_then_right : F := fun ds Q _ => ∃ a b c : MvR, ds = [.rng, .lst [a.row, b.row, c.row]] ∧ a.Good ∧ b.Good ∧ c.Good ∧ Q (.bl true)
@[irreducible] def f_law_done_right : F := fun ds Q _ => ∃ m : MvR, ds = [.rng, m.row] ∧ m.Good ∧ Q (.bl true)
@[irreducible] def f_law_refused_right : F := fun ds Q _ => ∃ m : MvR, ds = [.rng, m.row] ∧ m.Good ∧ Q (.bl true)
@[irreducible] def f_law_right : F := fun ds Q _ => ∃ u : Unit, ds = [.rng] ∧ Q (.bl true)
/-- what _law_told tells -/
def clas : List Cla := [⟨"InvalidMove", "move", [.fld "part"]⟩, ⟨"InvalidCount", "count", [.txt "value"]⟩, ⟨"TooMany", "many", [.fld "kind", .fld "limit"]⟩]
def lamOf : List Str := ["_law_done_right", "_law_refused_right"]
def Tbs (K : PySem.W.Frag) : List (Addr × Str) := lamOf.map fun x => ((He.cT K (x, none)).2, x ++ ".<locals>." ++ "<lambda>")
end DL
namespace DL
open PySem PySem.Spec PyProof.Rows L2
def ws_law_choice (EW : D → Prop) : WS := wRet (wBin fIx (wVar 1) (wCall f_law_draw EW (wCons (wVar 0) (wCons (wB fLen (wCons (wVar 1) (wNil))) (wNil)))))
def ws_law_plain (EW : D → Prop) : WS := wSeq (wPar2 3 4 (wCons (wB fAbs (wCons (wVar 0) (wNil))) (wCons (wB fAbs (wCons (wVar 1) (wNil))) (wNil)))) (wSeq (wWhile (wTst (wBin fNeI (wVar 4) (wC (.int 0)))) (wPar2 3 4 (wCons (wVar 4) (wCons (wBin fMod (wB fInt (wCons (wVar 3) (wNil))) (wVar 4)) (wNil))))) (wSeq (wAsg (wIfE (wTst (wBin fLt (wVar 1) (wC (.int 0)))) (wUn fNegI (wC (.int 1))) (wC (.int 1))) (gN 2)) (wRet (wTup (wCons (wBin fDiv (wBin fMul (wVar 2) (wVar 0)) (wVar 3)) (wCons (wBin fDiv (wB fAbs (wCons (wVar 1) (wNil))) (wVar 3)) (wNil)))))))
def ws_law_sum (EW : D → Prop) : WS := wRet (wCall f_law_plain EW (wCons (wBin fAdd (wBin fMul (wBin fIx (wVar 0) (wC (.int 0))) (wBin fIx (wVar 1) (wC (.int 1)))) (wBin fMul (wBin fIx (wVar 1) (wC (.int 0))) (wBin fIx (wVar 0) (wC (.int 1))))) (wCons (wBin fMul (wBin fIx (wVar 0) (wC (.int 1))) (wBin fIx (wVar 1) (wC (.int 1)))) (wNil))))
def ws_law_less (EW : D → Prop) : WS := wRet (wBin fLt (wBin fMul (wBin fIx (wVar 0) (wC (.int 0))) (wBin fIx (wVar 1) (wC (.int 1)))) (wBin fMul (wBin fIx (wVar 1) (wC (.int 0))) (wBin fIx (wVar 0) (wC (.int 1)))))
def ws_law_fraction (EW : D → Prop) : WS := wSeq (wIf (wTst (wBin fEqI (wCall f_law_draw EW (wCons (wVar 0) (wCons (wC (.int 16)) (wNil)))) (wC (.int 15)))) (wRet (wCall f_law_plain EW (wCons (wCall f_law_choice EW (wCons (wVar 0) (wCons (wLst (wCons (wBin fAdd (wBin fPow (wC (.int 10)) (wC (.int 24))) (wC (.int 1))) (wCons (wUn fNegI (wBin fPow (wC (.int 10)) (wC (.int 24)))) (wCons (wBin fMul (wC (.int 7)) (wBin fPow (wC (.int 10)) (wC (.int 11)))) (wNil))))) (wNil)))) (wCons (wBin fAdd (wC (.int 1)) (wCall f_law_draw EW (wCons (wVar 0) (wCons (wBin fPow (wC (.int 10)) (wC (.int 6))) (wNil))))) (wNil))))) (wNext)) (wRet (wCall f_law_plain EW (wCons (wBin fSub (wCall f_law_draw EW (wCons (wVar 0) (wCons (wC (.int 41)) (wNil)))) (wC (.int 20))) (wCons (wCall f_law_choice EW (wCons (wVar 0) (wCons (wLst (wCons (wC (.int 1)) (wCons (wC (.int 1)) (wCons (wC (.int 2)) (wCons (wC (.int 3)) (wCons (wC (.int 4)) (wCons (wC (.int 12)) (wNil)))))))) (wNil)))) (wNil)))))
def ws_law_real (EW : D → Prop) : WS := wRet (wIfE (wAnd (wTst (wBin fEqI (wBin fIx (wVar 1) (wC (.int 1))) (wC (.int 1)))) (wTst (wBin fEqI (wCall f_law_draw EW (wCons (wVar 0) (wCons (wC (.int 2)) (wNil)))) (wC (.int 0))))) (wBin fIx (wVar 1) (wC (.int 0))) (wCall f_Ratio___init___2 EW (wCons (wBin fIx (wVar 1) (wC (.int 0))) (wCons (wBin fIx (wVar 1) (wC (.int 1))) (wNil)))))
def ws_law_is (EW : D → Prop) : WS := wRet (wAndV (wB (fIsi isiT) (wCons (wVar 0) (wCons (wC (.cls "Ratio")) (wNil)))) (wBin fEqS (wB fRepr (wCons (wLst (wCons (wUn (selF "Ratio" "own_top") (wVar 0)) (wCons (wUn (selF "Ratio" "own_bottom") (wVar 0)) (wNil)))) (wNil))) (wB fRepr (wCons (wLst (wCons (wBin fIx (wVar 1) (wC (.int 0))) (wCons (wBin fIx (wVar 1) (wC (.int 1))) (wNil)))) (wNil)))))
def ws_law_over (EW : D → Prop) : WS := wRet (wCall f_law_plain EW (wCons (wBin fMul (wBin fIx (wVar 0) (wC (.int 0))) (wBin fIx (wVar 1) (wC (.int 1)))) (wCons (wBin fMul (wBin fIx (wVar 0) (wC (.int 1))) (wBin fIx (wVar 1) (wC (.int 0)))) (wNil))))
def ws_law_move (EW : D → Prop) : WS := wSeq (wSetOwn 1 (wCons (wCall f_law_fraction EW (wCons (wVar 0) (wNil))) (wCons (wCall f_law_fraction EW (wCons (wVar 0) (wNil))) (wNil)))) (wSeq (wIf (wTst (wCall f_law_less EW (wCons (wOwnIx 1 (wC (.int 1))) (wCons (wOwnIx 1 (wC (.int 0))) (wNil))))) (wOwnRev 1) (wNext)) (wSeq (wIf (wTst (wBin fEqI (wCall f_law_draw EW (wCons (wVar 0) (wCons (wC (.int 6)) (wNil)))) (wC (.int 0)))) (wOwnPut 1 (wOwnIx 1 (wC (.int 0))) (wC (.int 1))) (wNext)) (wRet (wTup (wCons (wCall f_law_choice EW (wCons (wVar 0) (wCons (wLst (wCons (wC (.int 1)) (wCons (wC (.int 1)) (wCons (wC (.int 2)) (wCons (wC (.int 2)) (wCons (wC (.int 3)) (wCons (wC (.int 9)) (wCons (wBin fAdd (wC (.int 1)) (wCall f_law_draw EW (wCons (wVar 0) (wCons (wC (.int 99)) (wNil))))) (wNil))))))))) (wNil)))) (wCons (wCall f_law_fraction EW (wCons (wVar 0) (wNil))) (wCons (wOwnIx 1 (wC (.int 0))) (wCons (wOwnIx 1 (wC (.int 1))) (wNil)))))))))
def ws_law_at (EW : D → Prop) : WS := wSeq (wAsg (wVar 0) (gTupD 4 (gsN [3, 4, 5, 6]))) (wSeq (wAsg (wCall f_law_over EW (wCons (wCall f_law_sum EW (wCons (wVar 1) (wCons (wVar 4) (wNil)))) (wCons (wTup (wCons (wVar 3) (wCons (wC (.int 1)) (wNil)))) (wNil)))) (gN 2)) (wSeq (wIf (wTst (wCall f_law_less EW (wCons (wVar 2) (wCons (wVar 5) (wNil))))) (wRet (wVar 5)) (wNext)) (wRet (wIfE (wTst (wCall f_law_less EW (wCons (wVar 6) (wCons (wVar 2) (wNil))))) (wVar 6) (wVar 2)))))
def ws_law_made (EW : D → Prop) : WS := wRet (wCall f_Move___init__ EW (wCons (wBin fIx (wVar 1) (wC (.int 0))) (wCons (wCall f_law_real EW (wCons (wVar 0) (wCons (wBin fIx (wVar 1) (wC (.int 1))) (wNil)))) (wCons (wCall f_law_real EW (wCons (wVar 0) (wCons (wBin fIx (wVar 1) (wC (.int 2))) (wNil)))) (wCons (wCall f_law_real EW (wCons (wVar 0) (wCons (wBin fIx (wVar 1) (wC (.int 3))) (wNil)))) (wNil))))))
def ws_law_is_move (EW : D → Prop) : WS := wSeq (wIf (wOr (wNot (wTst (wB (fIsi isiT) (wCons (wVar 0) (wCons (wC (.cls "Move")) (wNil)))))) (wTst (wBin fNeS (wB fRepr (wCons (wUn (selF "Move" "own_divisor") (wVar 0)) (wNil))) (wB fRepr (wCons (wBin fIx (wVar 1) (wC (.int 0))) (wNil)))))) (wRet (wC (.bl false))) (wNext)) (wRet (wAndV (wCall f_law_is EW (wCons (wUn (selF "Move" "own_plus") (wVar 0)) (wCons (wBin fIx (wVar 1) (wC (.int 1))) (wNil)))) (wAndV (wCall f_law_is EW (wCons (wUn (selF "Move" "own_low") (wVar 0)) (wCons (wBin fIx (wVar 1) (wC (.int 2))) (wNil)))) (wCall f_law_is EW (wCons (wUn (selF "Move" "own_high") (wVar 0)) (wCons (wBin fIx (wVar 1) (wC (.int 3))) (wNil)))))))
def ws_law_near (EW : D → Prop) : WS := wSeq (wAsg (wVar 1) (gTupD 4 (gsN [4, 5, 6, 7]))) (wSeq (wAsg (wLst (wCons (wCall f_law_fraction EW (wCons (wVar 0) (wNil))) (wCons (wCall f_law_fraction EW (wCons (wVar 0) (wNil))) (wCons (wVar 6) (wCons (wVar 7) (wNil)))))) (gN 2)) (wSeq (wFor (wIL (wLst (wCons (wVar 6) (wCons (wVar 7) (wNil))))) (gN 3) (wSeq (wAsg (wCall f_law_sum EW (wCons (wCall f_law_plain EW (wCons (wBin fMul (wBin fIx (wVar 3) (wC (.int 0))) (wVar 4)) (wCons (wBin fIx (wVar 3) (wC (.int 1))) (wNil)))) (wCons (wTup (wCons (wUn fNegI (wBin fIx (wVar 5) (wC (.int 0)))) (wCons (wBin fIx (wVar 5) (wC (.int 1))) (wNil)))) (wNil)))) (gN 8)) (wAsg (wBin fCatL (wVar 2) (wLst (wCons (wVar 8) (wCons (wCall f_law_sum EW (wCons (wVar 8) (wCons (wTup (wCons (wC (.int 1)) (wCons (wC (.int 12)) (wNil)))) (wNil)))) (wCons (wCall f_law_sum EW (wCons (wVar 8) (wCons (wTup (wCons (wUn fNegI (wC (.int 1))) (wCons (wC (.int 7)) (wNil)))) (wNil)))) (wNil)))))) (gN 2)))) (wRet (wVar 2))))
def ws_law_then (EW : D → Prop) : WS := wSeq (wAsg (wCall f_law_sum EW (wCons (wBin fIx (wVar 0) (wC (.int 1))) (wCons (wCall f_law_plain EW (wCons (wBin fMul (wBin fIx (wBin fIx (wVar 1) (wC (.int 1))) (wC (.int 0))) (wBin fIx (wVar 0) (wC (.int 0)))) (wCons (wBin fIx (wBin fIx (wVar 1) (wC (.int 1))) (wC (.int 1))) (wNil)))) (wNil)))) (gN 2)) (wRet (wTup (wCons (wBin fMul (wBin fIx (wVar 0) (wC (.int 0))) (wBin fIx (wVar 1) (wC (.int 0)))) (wCons (wVar 2) (wCons (wCall f_law_at EW (wCons (wVar 1) (wCons (wBin fIx (wVar 0) (wC (.int 2))) (wNil)))) (wCons (wCall f_law_at EW (wCons (wVar 1) (wCons (wBin fIx (wVar 0) (wC (.int 3))) (wNil)))) (wNil)))))))
def ws_law_raised (EW : D → Prop) : WS := wSeq (wAsg (wBin fIx (wVar 0) (wC (.int 1))) (gN 2)) (wSeq (wAsg (wCall f_law_plain EW (wCons (wBin fMul (wBin fIx (wVar 2) (wC (.int 0))) (wBin fSub (wVar 1) (wC (.int 1)))) (wCons (wBin fIx (wVar 2) (wC (.int 1))) (wNil)))) (gN 3)) (wSeq (wAsg (wTup (wCons (wC (.int 1)) (wCons (wVar 3) (wCons (wBin fIx (wVar 0) (wC (.int 2))) (wCons (wBin fIx (wVar 0) (wC (.int 3))) (wNil)))))) (gN 4)) (wRet (wTup (wCons (wC (.int 1)) (wCons (wCall f_law_plain EW (wCons (wBin fMul (wBin fIx (wVar 2) (wC (.int 0))) (wVar 1)) (wCons (wBin fIx (wVar 2) (wC (.int 1))) (wNil)))) (wCons (wCall f_law_at EW (wCons (wVar 4) (wCons (wBin fIx (wVar 0) (wC (.int 2))) (wNil)))) (wCons (wCall f_law_at EW (wCons (wVar 4) (wCons (wBin fIx (wVar 0) (wC (.int 3))) (wNil)))) (wNil)))))))))
def ws_law_then_right (EW : D → Prop) : WS := wSeq (wAsg (wLc (wIL (wVar 1)) (.one 6) (wYes) (wCall f_law_made (fun _ => False) (wCons (wVar 0) (wCons (wVar 6) (wNil)))) [6]) (gN 2)) (wSeq (wAsg (wCall f_law_then EW (wCons (wBin fIx (wVar 1) (wC (.int 0))) (wCons (wBin fIx (wVar 1) (wC (.int 1))) (wNil)))) (gN 3)) (wSeq (wAsg (wMeth "Move" "then" f_Move_then EW (wBin fIx (wVar 2) (wC (.int 0))) (wCons (wBin fIx (wVar 2) (wC (.int 1))) (wNil))) (gN 4)) (wSeq (wIf (wNot (wTst (wCall f_law_is_move EW (wCons (wVar 4) (wCons (wVar 3) (wNil)))))) (wRet (wC (.bl false))) (wNext)) (wSeq (wFor (wIL (wBin fCatL (wBin fCatL (wCall f_law_near EW (wCons (wVar 0) (wCons (wBin fIx (wVar 1) (wC (.int 0))) (wNil)))) (wCall f_law_near EW (wCons (wVar 0) (wCons (wBin fIx (wVar 1) (wC (.int 1))) (wNil))))) (wCall f_law_near EW (wCons (wVar 0) (wCons (wVar 3) (wNil)))))) (gN 5) (wIf (wNot (wTst (wCall f_law_is EW (wCons (wMeth "Move" "at" f_Move_at EW (wVar 4) (wCons (wCall f_law_real EW (wCons (wVar 0) (wCons (wVar 5) (wNil)))) (wNil))) (wCons (wCall f_law_at EW (wCons (wBin fIx (wVar 1) (wC (.int 1))) (wCons (wCall f_law_at EW (wCons (wBin fIx (wVar 1) (wC (.int 0))) (wCons (wVar 5) (wNil)))) (wNil)))) (wNil)))))) (wRet (wC (.bl false))) (wNext))) (wSeq (wIf (wTst (wOwn2 "Move" (isC "Move") (fNotF f_Move___eq__) EW (wMeth "Move" "then" f_Move_then EW (wVar 4) (wCons (wBin fIx (wVar 2) (wC (.int 2))) (wNil))) (wMeth "Move" "then" f_Move_then EW (wBin fIx (wVar 2) (wC (.int 0))) (wCons (wMeth "Move" "then" f_Move_then EW (wBin fIx (wVar 2) (wC (.int 1))) (wCons (wBin fIx (wVar 2) (wC (.int 2))) (wNil))) (wNil))))) (wRet (wC (.bl false))) (wNext)) (wRet (wAndV (wCall f_law_is_move EW (wCons (wMeth "Move" "then" f_Move_then EW (wVar 4) (wCons (wBin fIx (wVar 2) (wC (.int 2))) (wNil))) (wCons (wCall f_law_then EW (wCons (wVar 3) (wCons (wBin fIx (wVar 1) (wC (.int 2))) (wNil)))) (wNil)))) (wCall f_law_is_move EW (wCons (wBin fIx (wVar 2) (wC (.int 0))) (wCons (wBin fIx (wVar 1) (wC (.int 0))) (wNil)))))))))))
def ws_law_done_right (EW : D → Prop) : WS := wSeq (wAsg (wTup (wCons (wCall f_law_made EW (wCons (wVar 0) (wCons (wVar 1) (wNil)))) (wCons (wVar 1) (wCons (wBin fAdd (wC (.int 1)) (wCall f_law_draw EW (wCons (wVar 0) (wCons (wC (.int 7)) (wNil))))) (wNil))))) (gTupD 3 (gsN [6, 7, 8]))) (wSeq (wFor (wIR1 (wCons (wBin fSub (wVar 8) (wC (.int 1))) (wNil))) (gN 2) (wAsg (wCall f_law_then EW (wCons (wVar 7) (wCons (wVar 1) (wNil)))) (gN 7))) (wSeq (wIf (wOr (wNot (wTst (wCall f_law_is_move EW (wCons (wMeth "Move" "done" f_Move_done EW (wVar 6) (wCons (wVar 8) (wNil))) (wCons (wVar 7) (wNil)))))) (wNot (wTst (wCall f_law_is_move EW (wCons (wMeth "Move" "done" f_Move_done EW (wVar 6) (wCons (wC (.int 1)) (wNil))) (wCons (wVar 1) (wNil))))))) (wRet (wC (.bl false))) (wNext)) (wSeq (wAsg (wCall f_law_choice EW (wCons (wVar 0) (wCons (wCall f_law_near EW (wCons (wVar 0) (wCons (wVar 1) (wNil)))) (wNil)))) (gN 3)) (wSeq (wAsg (wVar 3) (gN 4)) (wSeq (wFor (wIR1 (wCons (wVar 8) (wNil))) (gN 2) (wAsg (wCall f_law_at EW (wCons (wVar 1) (wCons (wVar 4) (wNil)))) (gN 4))) (wSeq (wIf (wNot (wTst (wCall f_law_is EW (wCons (wMeth "Move" "at" f_Move_at EW (wMeth "Move" "done" f_Move_done EW (wVar 6) (wCons (wVar 8) (wNil))) (wCons (wCall f_law_real EW (wCons (wVar 0) (wCons (wVar 3) (wNil)))) (wNil))) (wCons (wVar 4) (wNil)))))) (wRet (wC (.bl false))) (wNext)) (wSeq (wPar2 7 8 (wCons (wVar 1) (wCons (wBin fAdd (wC (.int 8)) (wCall f_law_draw EW (wCons (wVar 0) (wCons (wC (.int 93)) (wNil))))) (wNil)))) (wSeq (wFor (wIR1 (wCons (wBin fSub (wVar 8) (wC (.int 1))) (wNil))) (gN 2) (wAsg (wCall f_law_then EW (wCons (wVar 7) (wCons (wVar 1) (wNil)))) (gN 7))) (wSeq (wIf (wNot (wTst (wCall f_law_is_move EW (wCons (wMeth "Move" "done" f_Move_done EW (wVar 6) (wCons (wVar 8) (wNil))) (wCons (wVar 7) (wNil)))))) (wRet (wC (.bl false))) (wNext)) (wSeq (wIf (wTst (wBin fGt (wBin fIx (wVar 1) (wC (.int 0))) (wC (.int 1)))) (wSeq (wPar2 9 10 (wCons (wLst (wCons (wTold clas (fun EW => wMeth "Move" "done" f_Move_done EW (wVar 6) (wCons (wC (.int 101)) (wNil)))) (wCons (wTold clas (fun EW => wMeth "Move" "done" f_Move_done EW (wVar 6) (wCons (wBin fPow (wC (.int 10)) (wC (.int 30))) (wNil)))) (wNil)))) (wCons (wC (.int 1)) (wNil)))) (wSeq (wFor (wIR1 (wCons (wC (.int 100)) (wNil))) (gN 2) (wAsg (wBin fMul (wVar 10) (wBin fIx (wVar 1) (wC (.int 0)))) (gN 10))) (wRet (wAndV (wBin fEqDat (wVar 9) (wBin fRep (wLst (wCons (wLst (wCons (wC (.str "many")) (wCons (wC (.str "times")) (wCons (wC (.int 100)) (wNil))))) (wNil))) (wC (.int 2)))) (wBin fEqI (wUn (selF "Move" "own_divisor") (wMeth "Move" "done" f_Move_done EW (wVar 6) (wCons (wC (.int 100)) (wNil)))) (wVar 10)))))) (wNext)) (wSeq (wAsg (wCall f_law_choice EW (wCons (wVar 0) (wCons (wLst (wCons (wC (.int 2)) (wCons (wC (.int 101)) (wCons (wBin fPow (wC (.int 10)) (wC (.int 6))) (wCons (wBin fPow (wC (.int 10)) (wC (.int 30))) (wCons (wBin fSub (wBin fPow (wC (.int 10)) (wC (.int 30))) (wC (.int 1))) (wCons (wBin fAdd (wC (.int 1)) (wCall f_law_draw EW (wCons (wVar 0) (wCons (wBin fPow (wC (.int 10)) (wC (.int 9))) (wNil))))) (wNil)))))))) (wNil)))) (gN 5)) (wSeq (wIf (wNot (wTst (wCall f_law_is_move EW (wCons (wMeth "Move" "done" f_Move_done EW (wVar 6) (wCons (wVar 5) (wNil))) (wCons (wCall f_law_raised EW (wCons (wVar 1) (wCons (wVar 5) (wNil)))) (wNil)))))) (wRet (wC (.bl false))) (wNext)) (wRet (wOrV (wBin fEqI (wVar 5) (wBin fPow (wC (.int 10)) (wC (.int 30)))) (wOwn2 "Move" (isC "Move") f_Move___eq__ EW (wMeth "Move" "then" f_Move_then EW (wMeth "Move" "done" f_Move_done EW (wVar 6) (wCons (wVar 5) (wNil))) (wCons (wVar 6) (wNil))) (wMeth "Move" "done" f_Move_done EW (wVar 6) (wCons (wBin fAdd (wVar 5) (wC (.int 1))) (wNil))))))))))))))))))
def ws_law_refused_right (EW : D → Prop) : WS := wSeq (wAsg (wCall f_law_made EW (wCons (wVar 0) (wCons (wVar 1) (wNil)))) (gN 2)) (wSeq (wAsg (wCall f_law_choice EW (wCons (wVar 0) (wCons (wLst (wCons (wC .non) (wCons (wC (.bl true)) (wCons (wC (.bl false)) (wCons (wC (.int 0)) (wCons (wUn fNegI (wC (.int 1))) (wCons (wC (.str "1")) (wCons (wLst (wNil)) (wCons (wCall f_Ratio___init___1 EW (wCons (wC (.int 1)) (wNil))) (wCons (wCall f_Ratio___init___1 EW (wCons (wC (.int 2)) (wNil))) (wCons (wTup (wCons (wC (.int 1)) (wNil))) (wCons (wC .dct0) (wNil))))))))))))) (wNil)))) (gN 3)) (wSeq (wAsg (wCall f_law_choice EW (wCons (wVar 0) (wCons (wLst (wCons (wC .non) (wCons (wC (.int 3)) (wCons (wC (.str "move")) (wCons (wLst (wNil)) (wCons (wC .dct0) (wCons (wTup (wCons (wC (.int 1)) (wCons (wC (.int 0)) (wCons (wC (.int 0)) (wCons (wC (.int 1)) (wNil)))))) (wNil)))))))) (wNil)))) (gN 4)) (wSeq (wIf (wTst (wBin fNeDat (wTold clas (fun EW => wMeth "Move" "done" f_Move_done EW (wVar 2) (wCons (wVar 3) (wNil)))) (wLst (wCons (wC (.str "count")) (wCons (wB fReprA (wCons (wVar 3) (wNil))) (wNil)))))) (wRet (wC (.bl false))) (wNext)) (wRet (wAndV (wBin fEqDat (wTold clas (fun EW => wMeth "Move" "then" f_Move_then EW (wVar 2) (wCons (wVar 4) (wNil)))) (wLst (wCons (wC (.str "move")) (wCons (wC (.str "other")) (wNil))))) (wCall f_law_is_move EW (wCons (wVar 2) (wCons (wVar 1) (wNil)))))))))
def ws_law_right (EW : D → Prop) : WS := wSeq (wAsg (wLc (wIR1 (wCons (wC (.int 3)) (wNil))) (.one 3) (wYes) (wCall f_law_move (fun _ => False) (wCons (wVar 0) (wNil))) [3]) (gN 1)) (wSeq (wIf (wOr (wNot (wTst (wCall f_law_then_right EW (wCons (wVar 0) (wCons (wVar 1) (wNil)))))) (wNot (wTst (wCall f_law_then_right EW (wCons (wVar 0) (wCons (wLst (wCons (wBin fIx (wVar 1) (wC (.int 1))) (wCons (wBin fIx (wVar 1) (wC (.int 1))) (wCons (wBin fIx (wVar 1) (wC (.int 0))) (wNil))))) (wNil))))))) (wRet (wC (.bl false))) (wNext)) (wSeq (wAsg (wBin fCatT (wTup (wCons (wC (.int 1)) (wNil))) (wSl (wBin fIx (wVar 1) (wC (.int 2))) (some (wC (.int 1))) none)) (gN 2)) (wRet (wAndV (wB fAll (wCons (wLc (wIL (wBin fCatL (wVar 1) (wLst (wCons (wVar 2) (wNil))))) (.one 4) (wYes) (wCall f_law_done_right (fun _ => False) (wCons (wVar 0) (wCons (wVar 4) (wNil)))) [4]) (wNil))) (wCall f_law_refused_right EW (wCons (wVar 0) (wCons (wBin fIx (wVar 1) (wC (.int 0))) (wNil))))))))
theorem mk_draw {n : Int} {Q R : D → Prop} (h1 : 0 < n) (h2 : n < 2 ^ 40) (k : ∀ d : Int, 0 ≤ d → d < n → Q (.int d)) : f_law_draw [.rng, .int n] Q R := by
  unfold f_law_draw
  exact ⟨n, rfl, h1, h2, k⟩
theorem mk_choice {xs : List D} {Q R : D → Prop} (h1 : xs ≠ []) (h2 : xs.length < 2 ^ 40) (k : ∀ d ∈ xs, Q d) : f_law_choice [.rng, .lst xs] Q R := by
  unfold f_law_choice
  exact ⟨xs, rfl, h1, h2, k⟩
theorem mk_plain {a b : Int} {Q R : D → Prop} (h1 : b ≠ 0) (h2 : a.natAbs < 2 ^ 8500) (h3 : b.natAbs < 2 ^ 8500) (k : Q (tq (Rat.divInt a b))) : f_law_plain [.int a, .int b] Q R := by
  unfold f_law_plain
  exact ⟨a, b, rfl, h1, h2, h3, k⟩
theorem mk_sum {q r : Rat} {Q R : D → Prop} (h1 : Sz 4000 q) (h2 : Sz 4000 r) (k : Q (tq (q + r))) : f_law_sum [tq q, tq r] Q R := by
  unfold f_law_sum
  exact ⟨q, r, rfl, h1, h2, k⟩
theorem mk_lless {q r : Rat} {Q R : D → Prop} (h1 : Sz 4000 q) (h2 : Sz 4000 r) (k : Q (.bl (decide (q < r)))) : f_law_less [tq q, tq r] Q R := by
  unfold f_law_less
  exact ⟨q, r, rfl, h1, h2, k⟩
theorem mk_fraction {Q R : D → Prop} (k : ∀ q, Gd q → Q (tq q)) : f_law_fraction [.rng] Q R := by
  unfold f_law_fraction
  exact ⟨(), rfl, k⟩
theorem mk_real {q : Rat} {Q R : D → Prop} (h1 : Sz 4000 q) (k : ∀ d, Nm q d → Q d) : f_law_real [.rng, tq q] Q R := by
  unfold f_law_real
  exact ⟨q, rfl, h1, k⟩
theorem mk_is {q : Rat} {Q R : D → Prop} (h1 : Sz 1900 q) (k : Q (.bl true)) : f_law_is [ro q, tq q] Q R := by
  unfold f_law_is
  exact ⟨q, rfl, h1, k⟩
theorem mk_lover {q r : Rat} {Q R : D → Prop} (h1 : Sz 4000 q) (h2 : Sz 4000 r) (h3 : r ≠ 0) (k : Q (tq (q / r))) : f_law_over [tq q, tq r] Q R := by
  unfold f_law_over
  exact ⟨q, r, rfl, h1, h2, h3, k⟩
theorem mk_move {Q R : D → Prop} (k : ∀ m : MvR, m.Good → Q m.row) : f_law_move [.rng] Q R := by
  unfold f_law_move
  exact ⟨(), rfl, k⟩
theorem mk_lat {m : MvR} {x : Rat} {Q R : D → Prop} (h1 : m.Ok) (h2 : Sz 1900 x) (k : Q (tq (m.pt x))) : f_law_at [m.row, tq x] Q R := by
  unfold f_law_at
  exact ⟨m, x, rfl, h1, h2, k⟩
theorem mk_made {m : MvR} {Q R : D → Prop} (h1 : m.Ok) (k : Q m.D) : f_law_made [.rng, m.row] Q R := by
  unfold f_law_made
  exact ⟨m, rfl, h1, k⟩
theorem mk_is_move {m : MvR} {Q R : D → Prop} (h1 : m.d.natAbs < 2 ^ 1900) (h2 : Sz 1900 m.p) (h3 : Sz 1900 m.l) (h4 : Sz 1900 m.h) (k : Q (.bl true)) : f_law_is_move [m.D, m.row] Q R := by
  unfold f_law_is_move
  exact ⟨m, rfl, h1, h2, h3, h4, k⟩
theorem mk_near {m : MvR} {Q R : D → Prop} (h0 : m.Ok) (h1 : m.d.natAbs < 2 ^ 20) (h2 : Sz 400 m.p) (h3 : Sz 400 m.l) (h4 : Sz 400 m.h) (k : ∀ xs : List Rat, xs ≠ [] → xs.length ≤ 10 → (∀ x ∈ xs, Sz 1000 x) → Q (.lst (xs.map tq))) : f_law_near [.rng, m.row] Q R := by
  unfold f_law_near
  exact ⟨m, rfl, h0, h1, h2, h3, h4, k⟩
theorem mk_lthen {m n : MvR} {Q R : D → Prop} (h1 : m.Ok) (h2 : n.Ok) (k : Q (m.th n).row) : f_law_then [m.row, n.row] Q R := by
  unfold f_law_then
  exact ⟨m, n, rfl, h1, h2, k⟩
theorem mk_raised {m : MvR} {n : Int} {Q R : D → Prop} (h0 : m.Ok) (hz : Sz 600 m.p) (h1 : 1 ≤ n) (h2 : n.natAbs < 2 ^ 300) (k : Q (m.added n).row) : f_law_raised [m.row, .int n] Q R := by
  unfold f_law_raised
  exact ⟨m, n, rfl, h0, hz, h1, h2, k⟩
theorem tq_ix0 {q : Rat} {Q : D → Prop} (k : Q (.int q.num)) : fIx (tq q) (.int 0) Q := ixt (ds := [.int q.num, .int (q.den : Int)]) (i := 0) rfl k
theorem tq_ix1 {q : Rat} {Q : D → Prop} (k : Q (.int (q.den : Int))) : fIx (tq q) (.int 1) Q := ixt (ds := [.int q.num, .int (q.den : Int)]) (i := 1) rfl k
theorem row_ix0 {m : MvR} {Q : D → Prop} (k : Q (.int m.d)) : fIx m.row (.int 0) Q := ixt (ds := [.int m.d, tq m.p, tq m.l, tq m.h]) (i := 0) rfl k
theorem row_ix1 {m : MvR} {Q : D → Prop} (k : Q (tq m.p)) : fIx m.row (.int 1) Q := ixt (ds := [.int m.d, tq m.p, tq m.l, tq m.h]) (i := 1) rfl k
theorem row_ix2 {m : MvR} {Q : D → Prop} (k : Q (tq m.l)) : fIx m.row (.int 2) Q := ixt (ds := [.int m.d, tq m.p, tq m.l, tq m.h]) (i := 2) rfl k
theorem row_ix3 {m : MvR} {Q : D → Prop} (k : Q (tq m.h)) : fIx m.row (.int 3) Q := ixt (ds := [.int m.d, tq m.p, tq m.l, tq m.h]) (i := 3) rfl k
theorem len_le {ds : List D} {n : Nat} (h : ds.length = n) (hn : n ≤ 16777216) : ds.length ≤ sizeLine := by
  rw [sizeLine_eq, h]
  exact hn
theorem pure_law_choice (ds : List D) (Q : D → Prop) (EW : D → Prop) (h : f_law_choice ds Q EW) : ws_law_choice EW { nx := fun _ => Q .non, rt := Q } (startD ["_law_rng_here", "_law_some"] ds) := by
  unfold f_law_choice at h
  obtain ⟨xs, rfl, h1, h2, k⟩ := h
  have hl : 0 < xs.length := List.length_pos_iff.mpr h1
  refine mk_draw (n := (xs.length : Int)) (by omega) (by omega) fun d d0 d1 => ?_
  obtain ⟨j, rfl⟩ := Int.eq_ofNat_of_zero_le d0
  have hj : j < xs.length := by omega
  have e : atI xs (j : Int) = some xs[j] := by
    unfold atI ixN
    simp [hj]
  exact ixl e (k _ (List.getElem_mem hj))
theorem pure_law_plain (ds : List D) (Q : D → Prop) (EW : D → Prop) (h : f_law_plain ds Q EW) : ws_law_plain EW { nx := fun _ => Q .non, rt := Q } (startD ["_law_top", "_law_bottom", "_law_sign", "_law_first", "_law_second"] ds) := by
  unfold f_law_plain at h
  obtain ⟨a, b, rfl, hb, h1, h2, hQ⟩ := h
  obtain ⟨s, hs, s0, sle, e1, e2⟩ := lowest (a := a) hb
  have e : ∀ i : Int, (if i < 0 then -i else i) = (i.natAbs : Int) := fun i => by split <;> omega
  show wWhile _ _ { nx := _, rt := Q } [.val (.int a), .val (.int b), .no, .val (.int (if a < 0 then -a else a)), .val (.int (if b < 0 then -b else b))]
  rw [e, e]
  refine ⟨fun m ρ => ∃ x y : Nat, ρ = [.val (.int a), .val (.int b), .no, .val (.int (x : Int)), .val (.int (y : Int))] ∧ y = m ∧ Nat.gcd x y = Nat.gcd a.natAbs b.natAbs, ⟨_, _, _, rfl, rfl, rfl⟩, ?_⟩
  rintro m ρ ⟨x, y, rfl, rfl, hg⟩
  show (match !decide ((y : Int) = 0) with
    | true => _
    | false => _)
  by_cases h0 : 0 < y
  · rw [decide_eq_false (show ¬ (y : Int) = 0 by omega)]
    refine ⟨fun ρ2 => ρ2 = [.val (.int a), .val (.int b), .no, .val (.int (y : Int)), .val (.int ((x % y : Nat) : Int))], ?_, ?_⟩
    · rintro ρ2 rfl
      exact ⟨_, Nat.mod_lt x h0, y, x % y, rfl, rfl, by rw [← hg, Nat.gcd_comm x y, Nat.gcd_rec y x, Nat.gcd_comm]⟩
    · refine an (show (0 : Int) < (y : Int) by omega) ?_
      show [S.val (.int a), .val (.int b), .no, .val (.int (y : Int)), .val (.int ((x : Int) % (y : Int)))] = _
      rfl
  · rw [decide_eq_true (show (y : Int) = 0 by omega)]
    have : y = 0 := by omega
    subst this
    rw [Nat.gcd_zero_right] at hg
    subst hg
    have hg : 0 < Nat.gcd a.natAbs b.natAbs := Nat.gcd_pos_of_pos_right _ (by omega)
    have hle : Nat.gcd a.natAbs b.natAbs ≤ b.natAbs := Nat.le_of_dvd (by omega) (Nat.gcd_dvd_right _ _)
    have d1 : ((Nat.gcd a.natAbs b.natAbs : Nat) : Int) ∣ a := Int.ofNat_dvd_left.mpr (Nat.gcd_dvd_left _ _)
    have d2 : ((Nat.gcd a.natAbs b.natAbs : Nat) : Int) ∣ b := Int.ofNat_dvd_left.mpr (Nat.gcd_dvd_right _ _)
    have lg : (((Nat.gcd a.natAbs b.natAbs : Nat) : Int)).natAbs.log2 < 9000 := by
      have := PySem.Flt.log2_lt_of (k := 8500) (by decide) (Nat.lt_of_le_of_lt hle h2)
      rw [Int.natAbs_natCast]
      omega
    have fin : ∀ sg : Int, sg.natAbs = 1 → (sg * a).fdiv (Nat.gcd a.natAbs b.natAbs : Nat) = (Rat.divInt a b).num → ((b.natAbs : Nat) : Int).fdiv (Nat.gcd a.natAbs b.natAbs : Nat) = ((Rat.divInt a b).den : Int) →
        wRet (wTup (wCons (wBin fDiv (wBin fMul (wVar 2) (wVar 0)) (wVar 3)) (wCons (wBin fDiv (wB fAbs (wCons (wVar 1) (wNil))) (wVar 3)) (wNil)))) { nx := fun _ => Q .non, rt := Q } [.val (.int a), .val (.int b), .val (.int sg), .val (.int ((Nat.gcd a.natAbs b.natAbs : Nat) : Int)), .val (.int ((0 : Nat) : Int))] := by
      intro sg hsg q1 q2
      refine an (wide_mul (a := 1) (b := 8500) (by rw [hsg]; decide) h1 (by decide) (by decide) (by decide)) (an (an (by omega) lg) (an (an (by omega) lg) (an len2 ?_)))
      show Q (.tup [.int ((sg * a).fdiv _), .int ((if b < 0 then -b else b).fdiv _)])
      rw [e, q1, q2]
      exact hQ
    have eb : ((b.natAbs : Nat) : Int) = if 0 < b then b else -b := by split <;> omega
    show (match decide (b < 0) with
      | true => _
      | false => _)
    by_cases hp : 0 < b
    · rw [decide_eq_false (by omega)]
      rw [if_pos hp] at hs
      subst hs
      exact fin 1 rfl (by rw [Int.one_mul]; exact e1) (by rw [eb, if_pos hp]; exact e2)
    · rw [decide_eq_true (by omega)]
      rw [if_neg hp] at hs
      subst hs
      refine fin (-1) rfl ?_ ?_
      · rw [← e1, Int.neg_one_mul, ← Int.neg_fdiv_neg, Int.neg_neg]
      · rw [← e2, eb, if_neg hp, ← Int.neg_fdiv_neg, Int.neg_neg]
theorem pure_law_sum (ds : List D) (Q : D → Prop) (EW : D → Prop) (h : f_law_sum ds Q EW) : ws_law_sum EW { nx := fun _ => Q .non, rt := Q } (startD ["_law_near_here", "_law_far"] ds) := by
  unfold f_law_sum at h
  obtain ⟨q, r, rfl, z1, z2, hQ⟩ := h
  refine tq_ix0 (tq_ix1 (an (mulW4 z1.1 (na_den z2)) (tq_ix0 (tq_ix1 (an (mulW4 z2.1 (na_den z1)) ?_)))))
  refine tq_ix1 (tq_ix1 (an (mulW4 (na_den z1) (na_den z2)) ?_))
  refine mk_plain (Int.mul_ne_zero (den_ne q) (den_ne r)) (na_le (na_add (na_mul z1.1 (na_den z2)) (na_mul z2.1 (na_den z1))) (by decide)) (na_le (na_mul (na_den z1) (na_den z2)) (by decide)) ?_
  rw [← q_add]
  exact hQ
theorem pure_law_less (ds : List D) (Q : D → Prop) (EW : D → Prop) (h : f_law_less ds Q EW) : ws_law_less EW { nx := fun _ => Q .non, rt := Q } (startD ["_law_near_here", "_law_far"] ds) := by
  unfold f_law_less at h
  obtain ⟨q, r, rfl, z1, z2, hQ⟩ := h
  refine tq_ix0 (tq_ix1 (an (mulW4 z1.1 (na_den z2)) (tq_ix0 (tq_ix1 (an (mulW4 z2.1 (na_den z1)) ?_)))))
  show Q (.bl (decide (q.num * (r.den : Int) < r.num * (q.den : Int))))
  rw [show decide (q.num * (r.den : Int) < r.num * (q.den : Int)) = decide (q < r) from decide_eq_decide.mpr (Rat.lt_iff q r).symm]
  exact hQ
theorem pure_law_over (ds : List D) (Q : D → Prop) (EW : D → Prop) (h : f_law_over ds Q EW) : ws_law_over EW { nx := fun _ => Q .non, rt := Q } (startD ["_law_near_here", "_law_far"] ds) := by
  unfold f_law_over at h
  obtain ⟨q, r, rfl, z1, z2, h0, hQ⟩ := h
  refine tq_ix0 (tq_ix1 (an (mulW4 z1.1 (na_den z2)) (tq_ix1 (tq_ix0 (an (mulW4 (na_den z1) z2.1) ?_)))))
  refine mk_plain (Int.mul_ne_zero (den_ne q) (num_ne h0)) (na_le (na_mul z1.1 (na_den z2)) (by decide)) (na_le (na_mul (na_den z1) z2.1) (by decide)) ?_
  rw [← q_div]
  exact hQ
theorem nd_divInt {a b : Int} (hb : b ≠ 0) : (Rat.divInt a b).num.natAbs ≤ a.natAbs ∧ (Rat.divInt a b).den ≤ b.natAbs := by
  obtain ⟨s, hs, s0, _, e1, e2⟩ := lowest (a := a) hb
  have d1 : s ∣ a := by
    rw [hs]
    split
    · exact Int.ofNat_dvd_left.mpr (Nat.gcd_dvd_left _ _)
    · exact Int.neg_dvd.mpr (Int.ofNat_dvd_left.mpr (Nat.gcd_dvd_left _ _))
  have d2 : s ∣ b := by
    rw [hs]
    split
    · exact Int.ofNat_dvd_left.mpr (Nat.gcd_dvd_right _ _)
    · exact Int.neg_dvd.mpr (Int.ofNat_dvd_left.mpr (Nat.gcd_dvd_right _ _))
  refine ⟨?_, ?_⟩
  · rw [← e1, div_exact d1, Int.natAbs_ediv_of_dvd d1]
    exact Nat.div_le_self _ _
  · have : ((Rat.divInt a b).den : Int).natAbs ≤ b.natAbs := by
      rw [← e2, div_exact d2, Int.natAbs_ediv_of_dvd d2]
      exact Nat.div_le_self _ _
    rwa [Int.natAbs_natCast] at this
theorem gd_divInt {a b : Int} (hb : b ≠ 0) (h1 : a.natAbs < 2 ^ 80) (h2 : b.natAbs < 2 ^ 20) : Gd (Rat.divInt a b) := ⟨Nat.lt_of_le_of_lt (nd_divInt hb).1 h1, Nat.lt_of_le_of_lt (nd_divInt hb).2 h2⟩
theorem mem3 {P : D → Prop} {a b c : D} (h1 : P a) (h2 : P b) (h3 : P c) : ∀ d ∈ [a, b, c], P d := fun d hd => by
  simp only [List.mem_cons, List.not_mem_nil, or_false] at hd
  rcases hd with rfl | rfl | rfl <;> assumption
theorem big {n m : Nat} (h : n ≤ m) : 2 ^ n ≤ 2 ^ m := Nat.pow_le_pow_right (by decide) h
theorem pure_law_fraction (ds : List D) (Q : D → Prop) (EW : D → Prop) (h : f_law_fraction ds Q EW) : ws_law_fraction EW { nx := fun _ => Q .non, rt := Q } (startD ["_law_rng_here"] ds) := by
  unfold f_law_fraction at h
  obtain ⟨_, rfl, k⟩ := h
  refine mk_draw (by decide) (by decide) fun d d0 d1 => ?_
  show (match decide (d = 15) with
    | true => _
    | false => _)
  by_cases hd : d = 15
  · rw [decide_eq_true hd]
    refine an ⟨by decide, by decide, by decide⟩ (an ⟨by decide, by decide, by decide⟩ (an ⟨by decide, by decide, by decide⟩ (an (show CMulW 7 (10 ^ 11) from by unfold CMulW; decide +kernel) (an (len_le (n := 3) rfl (by decide)) ?_))))
    have fin : ∀ v : Int, v.natAbs < 2 ^ 80 → (wCall f_law_plain EW (wCons (wC (.int v)) (wCons (wBin fAdd (wC (.int 1)) (wCall f_law_draw EW (wCons (wVar 0) (wCons (wBin fPow (wC (.int 10)) (wC (.int 6))) (wNil))))) (wNil)))) [.val .rng] Q := fun v hv => by
      refine an ⟨by decide, by decide, by decide⟩ (mk_draw (n := 1000000) (by decide) (by decide) fun e e0 e1 => ?_)
      have b1 : (1 + e).natAbs < 2 ^ 20 := by
        show _ < 1048576
        omega
      exact mk_plain (by omega) (Nat.lt_of_lt_of_le hv (big (by decide))) (Nat.lt_of_lt_of_le b1 (big (by decide))) (k _ (gd_divInt (by omega) hv b1))
    refine mk_choice (by simp) (by decide) (mem3 ?_ ?_ ?_)
    · exact fin (10 ^ 24 + 1) (by decide +kernel)
    · exact fin (-10 ^ 24) (by decide +kernel)
    · exact fin (7 * 10 ^ 11) (by decide +kernel)
  · rw [decide_eq_false hd]
    refine mk_draw (by decide) (by decide) fun e e0 e1 => ?_
    refine an (len_le (n := 6) rfl (by decide)) (mk_choice (by simp) (by decide) ?_)
    have fin : ∀ v : Int, 0 < v → v ≤ 12 → f_law_plain [.int (e - 20), .int v] Q EW := fun v v0 v1 => by
      have b0 : (e - 20).natAbs < 2 ^ 20 := by
        show _ < 1048576
        omega
      have b1 : v.natAbs < 2 ^ 20 := by
        show _ < 1048576
        omega
      exact mk_plain (by omega) (Nat.lt_of_lt_of_le b0 (big (by decide))) (Nat.lt_of_lt_of_le b1 (big (by decide))) (k _ (gd_divInt (by omega) (Nat.lt_of_lt_of_le b0 (big (by decide))) b1))
    intro d hd
    simp only [List.mem_cons, List.not_mem_nil, or_false] at hd
    rcases hd with rfl | rfl | rfl | rfl | rfl | rfl
    · exact fin 1 (by decide) (by decide)
    · exact fin 1 (by decide) (by decide)
    · exact fin 2 (by decide) (by decide)
    · exact fin 3 (by decide) (by decide)
    · exact fin 4 (by decide) (by decide)
    · exact fin 12 (by decide) (by decide)
theorem pure_law_real (ds : List D) (Q : D → Prop) (EW : D → Prop) (h : f_law_real ds Q EW) : ws_law_real EW { nx := fun _ => Q .non, rt := Q } (startD ["_law_rng_here", "_law_part"] ds) := by
  unfold f_law_real at h
  obtain ⟨q, rfl, z, k⟩ := h
  have mk : (wCall f_Ratio___init___2 EW (wCons (wBin fIx (wVar 1) (wC (.int 0))) (wCons (wBin fIx (wVar 1) (wC (.int 1))) (wNil)))) [.val .rng, .val (tq q)] Q := by
    refine tq_ix0 (tq_ix1 (mk_init2 (den_ne q) (na_le z.1 (by decide)) (na_le (na_den z) (by decide)) ?_))
    rw [← q_of]
    exact k _ (.inl rfl)
  refine tq_ix1 ?_
  show (match decide ((q.den : Int) = 1) with
    | true => _
    | false => _)
  by_cases hd : (q.den : Int) = 1
  · rw [decide_eq_true hd]
    refine mk_draw (by decide) (by decide) fun d d0 d1 => ?_
    show (match decide (d = 0) with
      | true => _
      | false => _)
    by_cases h0 : d = 0
    · rw [decide_eq_true h0]
      exact tq_ix0 (k _ (.inr ⟨rfl, by omega⟩))
    · rw [decide_eq_false h0]
      exact mk
  · rw [decide_eq_false hd]
    exact mk
/-! texts -/
theorem int_len {i : Int} (h : i.natAbs < 2 ^ 1900) : (PyData.shown (.int i)).length ≤ 1901 := by
  rw [PyData.shown_int, PySem.ofString_length]
  exact int_text_length_le (k := 1900) (by decide) (PySem.Flt.log2_lt_of (by decide) h)
theorem int_show {i : Int} (h : i.natAbs < 2 ^ 1900) : (PyData.int i).showable = true := by
  have := PySem.Flt.log2_lt_of (k := 1900) (by decide) h
  show decide (i.natAbs.log2 < 1920) = true
  exact decide_eq_true (by omega)
theorem rp_data {d : D} {p : PyData} {Q : D → Prop} (h : dat d = some p) (h1 : p.showable = true) (h2 : p.hasDict = false) (h3 : p.depth ≤ 50) (h4 : p.shown.length ≤ sizeLine) (k : Q (.str p.shown)) : fRepr [d] Q := by
  unfold fRepr
  show (match dat d with | some q => q.showable = true ∧ q.hasDict = false ∧ q.depth ≤ 50 ∧ q.shown.length ≤ sizeLine ∧ Q (.str q.shown) | none => False)
  rw [h]
  exact ⟨h1, h2, h3, h4, k⟩
theorem rp_int {i : Int} {Q : D → Prop} (h : i.natAbs < 2 ^ 1900) (k : Q (.str (PyData.shown (.int i)))) : fRepr [.int i] Q :=
  rp_data (p := .int i) rfl (int_show h) rfl (by simp [PyData.depth]) (by rw [sizeLine_eq]; have := int_len h; omega) k
theorem rp_two {i j : Int} {Q : D → Prop} (h : i.natAbs < 2 ^ 1900) (h' : j.natAbs < 2 ^ 1900) (k : Q (.str (PyData.shown (.list [.int i, .int j])))) : fRepr [.lst [.int i, .int j]] Q := by
  refine rp_data (p := .list [.int i, .int j]) rfl ?_ rfl (by simp [PyData.depth, PyData.depthAll]) ?_ k
  · show ((PyData.int i).showable && ((PyData.int j).showable && true)) = true
    rw [int_show h, int_show h']
    rfl
  · have e : PyData.shown (.list [.int i, .int j]) = listText [PyData.shown (.int i), PyData.shown (.int j)] := by simp only [PyData.shown, PyData.shownAll]
    rw [e, sizeLine_eq]
    have l := listText_len_le [PyData.shown (.int i), PyData.shown (.int j)]
    have l1 := int_len h
    have l2 := int_len h'
    simp only [List.map_cons, List.map_nil, List.sum_cons, List.sum_nil, List.length_cons, List.length_nil] at l
    omega
theorem eq_str {s : Str} {Q : D → Prop} (k : Q (.bl true)) : fEqS (.str s) (.str s) Q := by
  unfold fEqS
  show Q (.bl (decide (s = s)))
  rw [decide_eq_true rfl]
  exact k
theorem ne_str {s : Str} {Q : D → Prop} (k : Q (.bl false)) : fNeS (.str s) (.str s) Q := by
  unfold fNeS
  show Q (.bl (!decide (s = s)))
  rw [decide_eq_true rfl]
  exact k
theorem pure_law_is (ds : List D) (Q : D → Prop) (EW : D → Prop) (h : f_law_is ds Q EW) : ws_law_is EW { nx := fun _ => Q .non, rt := Q } (startD ["_law_made_here", "_law_part"] ds) := by
  unfold f_law_is at h
  obtain ⟨q, rfl, z, hQ⟩ := h
  refine isi_of (d := ro q) (c := .cls "Ratio") (b := true) rfl ?_
  refine an rfl (an rfl (an len2 (rp_two z.1 (na_den z) ?_)))
  exact tq_ix0 (tq_ix1 (an len2 (rp_two z.1 (na_den z) (eq_str hQ))))
theorem pure_law_move (ds : List D) (Q : D → Prop) (EW : D → Prop) (h : f_law_move ds Q EW) : ws_law_move EW { nx := fun _ => Q .non, rt := Q } (startD ["_law_rng_here", "_law_parts"] ds) := by
  unfold f_law_move at h
  obtain ⟨_, rfl, k⟩ := h
  refine mk_fraction fun q hq => mk_fraction fun r hr => ?_
  refine an len2 ?_
  have z1 := hq.sz.mono (n := 4000) (by decide)
  have z2 := hr.sz.mono (n := 4000) (by decide)
  -- what follows, from two numbers one behind the other
  have fin : ∀ l h : Rat, Gd l → Gd h → l ≤ h → (wRet (wTup (wCons (wCall f_law_choice EW (wCons (wVar 0) (wCons (wLst (wCons (wC (.int 1)) (wCons (wC (.int 1)) (wCons (wC (.int 2)) (wCons (wC (.int 2)) (wCons (wC (.int 3)) (wCons (wC (.int 9)) (wCons (wBin fAdd (wC (.int 1)) (wCall f_law_draw EW (wCons (wVar 0) (wCons (wC (.int 99)) (wNil))))) (wNil))))))))) (wNil)))) (wCons (wCall f_law_fraction EW (wCons (wVar 0) (wNil))) (wCons (wOwnIx 1 (wC (.int 0))) (wCons (wOwnIx 1 (wC (.int 1))) (wNil))))))) { nx := fun _ => Q .non, rt := Q } [.val .rng, .own [tq l, tq h]] := fun l h hl hh le => by
    refine mk_draw (by decide) (by decide) fun e e0 e1 => ?_
    refine an (len_le (n := 7) rfl (by decide)) (mk_choice (by simp) (show 7 < 2 ^ 40 by decide) ?_)
    have last : ∀ d : Int, 1 ≤ d → d ≤ 99 → f_law_fraction [.rng] (fun p => (wCons (wOwnIx 1 (wC (.int 0))) (wCons (wOwnIx 1 (wC (.int 1))) (wNil))) [.val .rng, .own [tq l, tq h]] fun ds => (.int d :: p :: ds).length ≤ sizeLine ∧ Q (.tup (.int d :: p :: ds))) EW := fun d d1 d2 =>
      mk_fraction fun p hp => an (len_le (n := 4) rfl (by decide)) (k ⟨d, p, l, h⟩ ⟨d1, d2, hp, hl, hh, le⟩)
    intro d hd
    simp only [List.mem_cons, List.not_mem_nil, or_false] at hd
    rcases hd with rfl | rfl | rfl | rfl | rfl | rfl | rfl
    · exact last 1 (by decide) (by decide)
    · exact last 1 (by decide) (by decide)
    · exact last 2 (by decide) (by decide)
    · exact last 2 (by decide) (by decide)
    · exact last 3 (by decide) (by decide)
    · exact last 9 (by decide) (by decide)
    · exact last (1 + e) (by omega) (by omega)
  have mid : ∀ l h : Rat, Gd l → Gd h → l ≤ h → (wSeq (wIf (wTst (wBin fEqI (wCall f_law_draw EW (wCons (wVar 0) (wCons (wC (.int 6)) (wNil)))) (wC (.int 0)))) (wOwnPut 1 (wOwnIx 1 (wC (.int 0))) (wC (.int 1))) (wNext)) (wRet (wTup (wCons (wCall f_law_choice EW (wCons (wVar 0) (wCons (wLst (wCons (wC (.int 1)) (wCons (wC (.int 1)) (wCons (wC (.int 2)) (wCons (wC (.int 2)) (wCons (wC (.int 3)) (wCons (wC (.int 9)) (wCons (wBin fAdd (wC (.int 1)) (wCall f_law_draw EW (wCons (wVar 0) (wCons (wC (.int 99)) (wNil))))) (wNil))))))))) (wNil)))) (wCons (wCall f_law_fraction EW (wCons (wVar 0) (wNil))) (wCons (wOwnIx 1 (wC (.int 0))) (wCons (wOwnIx 1 (wC (.int 1))) (wNil)))))))) { nx := fun _ => Q .non, rt := Q } [.val .rng, .own [tq l, tq h]] := fun l h hl hh le => by
    refine mk_draw (by decide) (by decide) fun e e0 e1 => ?_
    show (match decide (e = 0) with
      | true => _
      | false => _)
    by_cases h0 : e = 0
    · rw [decide_eq_true h0]
      exact fin l l hl hl Rat.le_refl
    · rw [decide_eq_false h0]
      exact fin l h hl hh le
  refine mk_lless z2 z1 ?_
  show (match decide (r < q) with
    | true => _
    | false => _)
  by_cases h0 : r < q
  · rw [decide_eq_true h0]
    exact mid r q hr hq (Rat.le_of_lt h0)
  · rw [decide_eq_false h0]
    exact mid q r hq hr (Rat.not_lt.mp h0)
theorem tq_int (d : Int) : tq (d : Rat) = .tup [.int d, .int 1] := by
  unfold tq
  rw [Rat.num_intCast, Rat.den_intCast]
  rfl
theorem tq_neg (q : Rat) : tq (-q) = .tup [.int (-q.num), .int (q.den : Int)] := rfl
theorem pure_law_at (ds : List D) (Q : D → Prop) (EW : D → Prop) (h : f_law_at ds Q EW) : ws_law_at EW { nx := fun _ => Q .non, rt := Q } (startD ["_law_row", "_law_part", "_law_found", "_law_divisor", "_law_plus", "_law_low", "_law_high"] ds) := by
  unfold f_law_at at h
  obtain ⟨m, x, rfl, o, z, hQ⟩ := h
  have zf := sz_free o.ps z o.d1 o.ds (by decide)
  refine an rfl (mk_sum (z.mono (by decide)) (o.ps.mono (by decide)) (an len2 ?_))
  have ov : f_law_over [tq (x + m.p), tq (m.d : Rat)] (fun d => (wSeq (wIf (wTst (wCall f_law_less EW (wCons (wVar 2) (wCons (wVar 5) (wNil))))) (wRet (wVar 5)) (wNext)) (wRet (wIfE (wTst (wCall f_law_less EW (wCons (wVar 6) (wCons (wVar 2) (wNil))))) (wVar 6) (wVar 2)))) { nx := fun _ => Q .non, rt := Q } [.val m.row, .val (tq x), .val d, .val (.int m.d), .val (tq m.p), .val (tq m.l), .val (tq m.h)]) EW := by
    refine mk_lover ((sz_add z o.ps).mono (by decide)) ((sz_int o.ds (by decide)).mono (by decide)) (cast_ne o.d1) ?_
    refine mk_lless (zf.mono (by decide)) (o.ls.mono (by decide)) ?_
    have e : m.pt x = if m.fr x < m.l then m.l else if m.h < m.fr x then m.h else m.fr x := hold_eq o.lh
    rw [e] at hQ
    show (match decide (m.fr x < m.l) with
      | true => _
      | false => _)
    by_cases h1 : m.fr x < m.l
    · rw [decide_eq_true h1]
      rw [if_pos h1] at hQ
      exact hQ
    · rw [decide_eq_false h1]
      rw [if_neg h1] at hQ
      refine mk_lless (o.hs.mono (by decide)) (zf.mono (by decide)) ?_
      show (match decide (m.h < m.fr x) with
        | true => _
        | false => _)
      by_cases h2 : m.h < m.fr x
      · rw [decide_eq_true h2]
        rw [if_pos h2] at hQ
        exact hQ
      · rw [decide_eq_false h2]
        rw [if_neg h2] at hQ
        exact hQ
  rw [tq_int] at ov
  exact ov
theorem MvR.Ok.mk' {m : MvR} (o : m.Ok) : MOk m.d m.p m.l m.h := o
theorem pure_law_made (ds : List D) (Q : D → Prop) (EW : D → Prop) (h : f_law_made ds Q EW) : ws_law_made EW { nx := fun _ => Q .non, rt := Q } (startD ["_law_rng_here", "_law_row"] ds) := by
  unfold f_law_made at h
  obtain ⟨m, rfl, o, hQ⟩ := h
  refine row_ix0 (row_ix1 (mk_real (o.ps.mono (by decide)) fun dp np => row_ix2 (mk_real (o.ls.mono (by decide)) fun dl nl => row_ix3 (mk_real (o.hs.mono (by decide)) fun dh nh => ?_))))
  exact mk_minit o.d1 np nl nh (o.ps.mono (by decide)) (o.ls.mono (by decide)) (o.hs.mono (by decide)) o.lh hQ
theorem pure_law_is_move (ds : List D) (Q : D → Prop) (EW : D → Prop) (h : f_law_is_move ds Q EW) : ws_law_is_move EW { nx := fun _ => Q .non, rt := Q } (startD ["_law_made_here", "_law_row"] ds) := by
  unfold f_law_is_move at h
  obtain ⟨m, rfl, z0, z1, z2, z3, hQ⟩ := h
  refine isi_of (d := m.D) (c := .cls "Move") (b := true) rfl ?_
  refine an rfl (rp_int z0 (row_ix0 (rp_int z0 (ne_str ?_))))
  refine an rfl (row_ix1 (mk_is z1 (an rfl (row_ix2 (mk_is z2 (an rfl (row_ix3 (mk_is z3 hQ))))))))
theorem pure_law_then (ds : List D) (Q : D → Prop) (EW : D → Prop) (h : f_law_then ds Q EW) : ws_law_then EW { nx := fun _ => Q .non, rt := Q } (startD ["_law_row", "_law_further", "_law_plus"] ds) := by
  unfold f_law_then at h
  obtain ⟨m, n, rfl, o, o2, hQ⟩ := h
  have zp : Sz 1800 (n.p * (m.d : Rat)) := sz_mul o2.ps (sz_int o.ds (by decide))
  refine row_ix1 (row_ix1 (tq_ix0 (row_ix0 (an (mulW4 (na_le o2.ps.1 (by decide)) (na_le o.ds (by decide))) (row_ix1 (tq_ix1 ?_))))))
  refine mk_plain (den_ne _) (na_le (na_mul o2.ps.1 o.ds) (by decide)) (na_le (na_den o2.ps) (by decide)) ?_
  have e : Rat.divInt (n.p.num * m.d) (n.p.den : Int) = n.p * (m.d : Rat) := by
    rw [q_mul, Rat.num_intCast, Rat.den_intCast]
    show _ = Rat.divInt _ ((n.p.den : Int) * 1)
    rw [Int.mul_one]
  rw [e]
  refine mk_sum (o.ps.mono (by decide)) (zp.mono (by decide)) ?_
  refine row_ix0 (row_ix0 (an (mulW4 (na_le o.ds (by decide)) (na_le o2.ds (by decide))) ?_))
  refine row_ix2 (mk_lat o2 (o.ls.mono (by decide)) (row_ix3 (mk_lat o2 (o.hs.mono (by decide)) (an (len_le (n := 4) rfl (by decide)) ?_))))
  exact hQ
theorem pure_law_raised (ds : List D) (Q : D → Prop) (EW : D → Prop) (h : f_law_raised ds Q EW) : ws_law_raised EW { nx := fun _ => Q .non, rt := Q } (startD ["_law_row", "_law_many", "_law_plus", "_law_before", "_law_held"] ds) := by
  unfold f_law_raised at h
  obtain ⟨m, n, rfl, o, zp, h1, h2, hQ⟩ := h
  have e : ∀ k : Int, Rat.divInt (m.p.num * k) (m.p.den : Int) = m.p * (k : Rat) := fun k => by
    rw [q_mul, Rat.num_intCast, Rat.den_intCast]
    show _ = Rat.divInt _ ((m.p.den : Int) * 1)
    rw [Int.mul_one]
  have n1 : (n - 1).natAbs < 2 ^ 300 := by omega
  have zh : Sz 900 (m.p * ((n - 1 : Int) : Rat)) := sz_mul zp (sz_int n1 (by decide))
  have oh : MvR.Ok ⟨1, m.p * ((n - 1 : Int) : Rat), m.l, m.h⟩ := ⟨(show (1 : Int) ≤ 1 by decide), Nat.one_lt_two_pow (by decide), zh.mono (by decide), o.ls, o.hs, o.lh⟩
  have pe : ∀ x : Rat, MvR.pt ⟨1, m.p * ((n - 1 : Int) : Rat), m.l, m.h⟩ x = hold m.l m.h (x + m.p * ((n - 1 : Int) : Rat)) := fun x => by
    show hold m.l m.h ((x + m.p * ((n - 1 : Int) : Rat)) / ((1 : Int) : Rat)) = _
    have e1 : ((1 : Int) : Rat) = 1 := rfl
    rw [e1]
    generalize m.p * ((n - 1 : Int) : Rat) = t
    have : (x + t) / 1 = x + t := by grind
    rw [this]
  refine row_ix1 (tq_ix0 (an (mulW4 (na_le zp.1 (by decide)) (na_le n1 (by decide))) (tq_ix1 ?_)))
  refine mk_plain (den_ne _) (na_le (na_mul zp.1 n1) (by decide)) (na_le (na_den zp) (by decide)) ?_
  rw [e]
  refine row_ix2 (row_ix3 (an (len_le (n := 4) rfl (by decide)) ?_))
  refine tq_ix0 (an (mulW4 (na_le zp.1 (by decide)) (na_le h2 (by decide))) (tq_ix1 ?_))
  refine mk_plain (den_ne _) (na_le (na_mul zp.1 h2) (by decide)) (na_le (na_den zp) (by decide)) ?_
  rw [e]
  have at_ : ∀ {x : Rat} {Q R : D → Prop}, Sz 1900 x → Q (tq (hold m.l m.h (x + m.p * ((n - 1 : Int) : Rat)))) → f_law_at [.tup [.int 1, tq (m.p * ((n - 1 : Int) : Rat)), tq m.l, tq m.h], tq x] Q R := fun {x Q R} hx k => mk_lat (m := ⟨1, m.p * ((n - 1 : Int) : Rat), m.l, m.h⟩) oh hx (by rw [pe]; exact k)
  refine row_ix2 (at_ (o.ls.mono (by decide)) (row_ix3 (at_ (o.hs.mono (by decide)) (an (len_le (n := 4) rfl (by decide)) ?_))))
  exact hQ
theorem tq_112 : tq (Rat.divInt 1 12) = .tup [.int 1, .int 12] := by
  have h1 : (Rat.divInt 1 12).num = 1 := by decide +kernel
  have h2 : (Rat.divInt 1 12).den = 12 := by decide +kernel
  unfold tq
  rw [h1, h2]
  rfl
theorem tq_17 : tq (Rat.divInt (-1) 7) = .tup [.int (-1), .int 7] := by
  have h1 : (Rat.divInt (-1) 7).num = -1 := by decide +kernel
  have h2 : (Rat.divInt (-1) 7).den = 7 := by decide +kernel
  unfold tq
  rw [h1, h2]
  rfl
theorem pure_law_near (ds : List D) (Q : D → Prop) (EW : D → Prop) (h : f_law_near ds Q EW) : ws_law_near EW { nx := fun _ => Q .non, rt := Q } (startD ["_law_rng_here", "_law_row", "_law_found", "_law_part", "_law_divisor", "_law_plus", "_law_low", "_law_high", "_law_back"] ds) := by
  unfold f_law_near at h
  obtain ⟨m, rfl, o, hd, z1, z2, z3, k⟩ := h
  refine an rfl (mk_fraction fun q hq => mk_fraction fun r hr => an (len_le (n := 4) rfl (by decide)) (an len2 ?_))
  have s12 : Sz 10 (Rat.divInt 1 12) := sz_divInt (by decide) (by decide) (by decide)
  have s7 : Sz 10 (Rat.divInt (-1) 7) := sz_divInt (by decide) (by decide) (by decide)
  refine ⟨fun i ρ => ∃ (xs : List Rat) (u v : S), ρ = [.val .rng, .val m.row, .val (.lst (xs.map tq)), u, .val (.int m.d), .val (tq m.p), .val (tq m.l), .val (tq m.h), v] ∧ xs.length = 4 + 3 * i ∧ (∀ x ∈ xs, Sz 1000 x) ∧ i ≤ 2, ⟨[q, r, m.l, m.h], _, _, rfl, rfl, ?_, by decide⟩, ?_, ?_⟩
  · intro x hx
    simp only [List.mem_cons, List.not_mem_nil, or_false] at hx
    rcases hx with rfl | rfl | rfl | rfl
    · exact hq.sz.mono (by decide)
    · exact hr.sz.mono (by decide)
    · exact z2.mono (by decide)
    · exact z3.mono (by decide)
  · rintro i d ρ hi ⟨xs, u, v, rfl, hl, hx, hi2⟩
    have step : ∀ (x : Rat), Sz 400 x → i < 2 → (wSeq (wAsg (wCall f_law_sum EW (wCons (wCall f_law_plain EW (wCons (wBin fMul (wBin fIx (wVar 3) (wC (.int 0))) (wVar 4)) (wCons (wBin fIx (wVar 3) (wC (.int 1))) (wNil)))) (wCons (wTup (wCons (wUn fNegI (wBin fIx (wVar 5) (wC (.int 0)))) (wCons (wBin fIx (wVar 5) (wC (.int 1))) (wNil)))) (wNil)))) (gN 8)) (wAsg (wBin fCatL (wVar 2) (wLst (wCons (wVar 8) (wCons (wCall f_law_sum EW (wCons (wVar 8) (wCons (wTup (wCons (wC (.int 1)) (wCons (wC (.int 12)) (wNil)))) (wNil)))) (wCons (wCall f_law_sum EW (wCons (wVar 8) (wCons (wTup (wCons (wUn fNegI (wC (.int 1))) (wCons (wC (.int 7)) (wNil)))) (wNil)))) (wNil)))))) (gN 2))) { nx := fun ρ => ∃ (xs : List Rat) (u v : S), ρ = [.val .rng, .val m.row, .val (.lst (xs.map tq)), u, .val (.int m.d), .val (tq m.p), .val (tq m.l), .val (tq m.h), v] ∧ xs.length = 4 + 3 * (i + 1) ∧ (∀ x ∈ xs, Sz 1000 x) ∧ i + 1 ≤ 2, rt := Q } [.val .rng, .val m.row, .val (.lst (xs.map tq)), .val (tq x), .val (.int m.d), .val (tq m.p), .val (tq m.l), .val (tq m.h), v] := fun x zx i2 => by
      have zb : Sz 421 (x * (m.d : Rat)) := (sz_mul zx (sz_int hd (by decide))).mono (by decide)
      have zc : Sz 822 (x * (m.d : Rat) + -m.p) := sz_add zb (sz_neg z1)
      refine tq_ix0 (an (mulW4 (na_le zx.1 (by decide)) (na_le hd (by decide))) (tq_ix1 (mk_plain (den_ne _) (na_le (na_mul zx.1 hd) (by decide)) (na_le (na_den zx) (by decide)) ?_)))
      have e : Rat.divInt (x.num * m.d) (x.den : Int) = x * (m.d : Rat) := by
        rw [q_mul, Rat.num_intCast, Rat.den_intCast]
        show _ = Rat.divInt _ ((x.den : Int) * 1)
        rw [Int.mul_one]
      rw [e]
      refine tq_ix0 (tq_ix1 (an len2 ?_))
      refine mk_sum (r := -m.p) (zb.mono (by decide)) ((sz_neg z1).mono (by decide)) ?_
      refine an len2 ?_
      have s1 : ∀ {Q R : D → Prop}, Q (tq (x * (m.d : Rat) + -m.p + Rat.divInt 1 12)) → f_law_sum [tq (x * (m.d : Rat) + -m.p), .tup [.int 1, .int 12]] Q R := fun k => by
        rw [← tq_112]
        exact mk_sum (zc.mono (by decide)) (s12.mono (by decide)) k
      have s2 : ∀ {Q R : D → Prop}, Q (tq (x * (m.d : Rat) + -m.p + Rat.divInt (-1) 7)) → f_law_sum [tq (x * (m.d : Rat) + -m.p), .tup [.int (-1), .int 7]] Q R := fun k => by
        rw [← tq_17]
        exact mk_sum (zc.mono (by decide)) (s7.mono (by decide)) k
      refine s1 (an len2 (s2 (an (len_le (n := 3) rfl (by decide)) (an ?_ ?_))))
      · rw [List.length_map, hl, sizeLine_eq]
        show 4 + 3 * i + 3 ≤ 16777216
        omega
      · refine ⟨xs ++ [x * (m.d : Rat) + -m.p, x * (m.d : Rat) + -m.p + Rat.divInt 1 12, x * (m.d : Rat) + -m.p + Rat.divInt (-1) 7], .val (tq x), .val (tq (x * (m.d : Rat) + -m.p)), ?_, ?_, ?_, by omega⟩
        · rw [List.map_append]
          rfl
        · rw [List.length_append, hl]
          show 4 + 3 * i + 3 = _
          omega
        · intro y hy
          rcases List.mem_append.mp hy with hy | hy
          · exact hx y hy
          · simp only [List.mem_cons, List.not_mem_nil, or_false] at hy
            rcases hy with rfl | rfl | rfl
            · exact zc.mono (by decide)
            · exact (sz_add zc s12).mono (by decide)
            · exact (sz_add zc s7).mono (by decide)
    match i, hi with
    | 0, hi =>
      cases hi
      exact step m.l z2 (by decide)
    | 1, hi =>
      cases hi
      exact step m.h z3 (by decide)
    | i + 2, hi => simp at hi
  · rintro ρ ⟨xs, u, v, rfl, hl, hx, hi2⟩
    refine k xs (fun z => ?_) ?_ hx
    · rw [z] at hl
      simp at hl
    · rw [hl]
      show 4 + 3 * 2 ≤ 10
      decide
theorem MvR.Good.ok {m : MvR} (g : m.Good) : m.Ok := ⟨g.d1, by
  have := g.d1
  have := g.d2
  exact Nat.lt_of_lt_of_le (show m.d.natAbs < 2 ^ 7 by show _ < 128; omega) (big (by decide)), g.p.sz.mono (by decide), g.l.sz.mono (by decide), g.h.sz.mono (by decide), g.lh⟩
theorem MvR.Good.d7 {m : MvR} (g : m.Good) : m.d.natAbs < 2 ^ 7 := by
  have := g.d1
  have := g.d2
  show _ < 128
  omega
/-- two moves behind one another -/
structure MvR.Mid (m : MvR) : Prop where
  d1 : 1 ≤ m.d
  ds : m.d.natAbs < 2 ^ 20
  p : Sz 400 m.p
  l : Sz 400 m.l
  h : Sz 400 m.h
  lh : m.l ≤ m.h
theorem MvR.Good.mid {m : MvR} (g : m.Good) : m.Mid := ⟨g.d1, Nat.lt_of_lt_of_le g.d7 (big (by decide)), g.p.sz.mono (by decide), g.l.sz.mono (by decide), g.h.sz.mono (by decide), g.lh⟩
theorem MvR.Mid.ok {m : MvR} (g : m.Mid) : m.Ok := ⟨g.d1, Nat.lt_of_lt_of_le g.ds (big (by decide)), g.p.mono (by decide), g.l.mono (by decide), g.h.mono (by decide), g.lh⟩
theorem sz_pt {m : MvR} {k : Nat} {x : Rat} (g : m.Good) (hx : Sz k x) (hk : 80 ≤ k) : Sz (k + 88) (m.pt x) := sz_hold (g.l.sz.mono (by omega)) (g.h.sz.mono (by omega)) ((sz_free g.p.sz hx g.d1 g.d7 (by decide)).mono (by omega))
theorem mid_th {a b : MvR} (ga : a.Good) (gb : b.Good) : (a.th b).Mid := by
  refine ⟨th_d a b ga.d1 gb.d1, Nat.lt_of_lt_of_le (na_mul ga.d7 gb.d7) (big (by decide)), ?_, (sz_pt gb ga.l.sz (by decide)).mono (by decide), (sz_pt gb ga.h.sz (by decide)).mono (by decide), th_le a b gb.d1 ga.lh gb.lh⟩
  exact (sz_add ga.p.sz (sz_mul gb.p.sz (sz_int ga.d7 (by decide)))).mono (by decide)
theorem th3_sz {w c : MvR} (gw : w.Mid) (gc : c.Good) : (w.th c).d.natAbs < 2 ^ 1900 ∧ Sz 1900 (w.th c).p ∧ Sz 1900 (w.th c).l ∧ Sz 1900 (w.th c).h :=
  ⟨Nat.lt_of_lt_of_le (na_mul gw.ds gc.d7) (big (by decide)), (sz_add gw.p (sz_mul gc.p.sz (sz_int gw.ds (by decide)))).mono (by decide), (sz_pt gc gw.l (by decide)).mono (by decide), (sz_pt gc gw.h (by decide)).mono (by decide)⟩
theorem mk_isM {m : MvR} {Q R : D → Prop} (h : m.d.natAbs < 2 ^ 1900 ∧ Sz 1900 m.p ∧ Sz 1900 m.l ∧ Sz 1900 m.h) (k : Q (.bl true)) : f_law_is_move [m.D, m.row] Q R := mk_is_move h.1 h.2.1 h.2.2.1 h.2.2.2 k
theorem MvR.Ok.sz {m : MvR} (o : m.Ok) : m.d.natAbs < 2 ^ 1900 ∧ Sz 1900 m.p ∧ Sz 1900 m.l ∧ Sz 1900 m.h := ⟨Nat.lt_of_lt_of_le o.ds (big (by decide)), o.ps.mono (by decide), o.ls.mono (by decide), o.hs.mono (by decide)⟩
theorem mk_nearM {m : MvR} {Q R : D → Prop} (g : m.Mid) (k : ∀ xs : List Rat, xs ≠ [] → xs.length ≤ 10 → (∀ x ∈ xs, Sz 1000 x) → Q (.lst (xs.map tq))) : f_law_near [.rng, m.row] Q R := mk_near g.ok g.ds g.p g.l g.h k
theorem mk_meq {m n : MvR} {Q R : D → Prop} (e : m = n) (k : Q (.bl true)) : f_Move___eq__ [m.D, n.D] Q R := by
  unfold f_Move___eq__
  subst e
  refine ⟨m, m, rfl, ?_⟩
  rw [decide_eq_true ⟨rfl, rfl, rfl, rfl⟩]
  exact k
theorem mk_mne {m n : MvR} {Q R : D → Prop} (e : m = n) (k : Q (.bl false)) : fNotF f_Move___eq__ [m.D, n.D] Q R := mk_meq e k
theorem pure_law_then_right (ds : List D) (Q : D → Prop) (EW : D → Prop) (h : f_law_then_right ds Q EW) : ws_law_then_right EW { nx := fun _ => Q .non, rt := Q } (startD ["_law_rng_here", "_law_rows", "_law_made_here", "_law_due", "_law_whole", "_law_part", "_law_row"] ds) := by
  unfold f_law_then_right at h
  obtain ⟨a, b, c, rfl, ga, gb, gc, hQ⟩ := h
  have gw := mid_th ga gb
  have gv := mid_th gb gc
  refine ⟨fun i acc => acc = ([a, b, c].take i).map MvR.D, rfl, ?_, ?_⟩
  · rintro i d acc hi rfl
    match i, hi with
    | 0, hi =>
      cases hi
      exact an (by rw [sizeLine_eq]; exact (by decide : 0 < 16777216)) (mk_made ga.ok rfl)
    | 1, hi =>
      cases hi
      exact an (by rw [sizeLine_eq]; exact (by decide : 1 < 16777216)) (mk_made gb.ok rfl)
    | 2, hi =>
      cases hi
      exact an (by rw [sizeLine_eq]; exact (by decide : 2 < 16777216)) (mk_made gc.ok rfl)
    | i + 3, hi => simp at hi
  rintro acc rfl
  have r0 : ∀ {Q : D → Prop}, Q a.row → fIx (.lst [a.row, b.row, c.row]) (.int 0) Q := fun k => ixl (ds := [a.row, b.row, c.row]) (i := 0) rfl k
  have r1 : ∀ {Q : D → Prop}, Q b.row → fIx (.lst [a.row, b.row, c.row]) (.int 1) Q := fun k => ixl (ds := [a.row, b.row, c.row]) (i := 1) rfl k
  have r2 : ∀ {Q : D → Prop}, Q c.row → fIx (.lst [a.row, b.row, c.row]) (.int 2) Q := fun k => ixl (ds := [a.row, b.row, c.row]) (i := 2) rfl k
  have m0 : ∀ {Q : D → Prop}, Q a.D → fIx (.lst [a.D, b.D, c.D]) (.int 0) Q := fun k => ixl (ds := [a.D, b.D, c.D]) (i := 0) rfl k
  have m1 : ∀ {Q : D → Prop}, Q b.D → fIx (.lst [a.D, b.D, c.D]) (.int 1) Q := fun k => ixl (ds := [a.D, b.D, c.D]) (i := 1) rfl k
  have m2 : ∀ {Q : D → Prop}, Q c.D → fIx (.lst [a.D, b.D, c.D]) (.int 2) Q := fun k => ixl (ds := [a.D, b.D, c.D]) (i := 2) rfl k
  refine r0 (r1 (mk_lthen ga.ok gb.ok ?_))
  refine m0 (an rfl (an rfl (m1 (mk_then ga.ok gb.ok ?_))))
  refine mk_isM gw.ok.sz ?_
  refine r0 (mk_nearM ga.mid fun xs _ l1 z1 => r1 (mk_nearM gb.mid fun ys _ l2 z2 => ?_))
  have cat : ∀ {p q : List D} {Q : D → Prop}, p.length + q.length ≤ 30 → Q (.lst (p ++ q)) → fCatL (.lst p) (.lst q) Q := fun h k => an (by rw [sizeLine_eq]; omega) k
  refine cat (by simp only [List.length_map]; omega) (mk_nearM gw fun zs _ l3 z3 => cat (by simp only [List.length_append, List.length_map]; omega) ?_)
  rw [← List.map_append, ← List.map_append]
  have zall : ∀ x ∈ xs ++ ys ++ zs, Sz 1000 x := fun x hx => by
    rcases List.mem_append.mp hx with hx | hx
    · rcases List.mem_append.mp hx with hx | hx
      · exact z1 x hx
      · exact z2 x hx
    · exact z3 x hx
  generalize xs ++ ys ++ zs = ps at zall
  refine ⟨fun i ρ => ∃ u, ρ = [.val .rng, .val (.lst [a.row, b.row, c.row]), .val (.lst [a.D, b.D, c.D]), .val (a.th b).row, .val (a.th b).D, u, .no], ⟨_, rfl⟩, ?_, ?_⟩
  · rintro i d ρ hi ⟨u, rfl⟩
    rw [List.getElem?_map] at hi
    obtain ⟨x, hx, rfl⟩ := Option.map_eq_some_iff.mp hi
    have zx := zall x (List.mem_of_getElem? hx)
    have pa := sz_pt ga zx (by decide)
    have pb := sz_pt gb pa (by decide)
    refine an rfl (an rfl (mk_real (zx.mono (by decide)) fun e ne => mk_at ne gw.ok (zx.mono (by decide)) ?_))
    refine r1 (r0 (mk_lat ga.ok (zx.mono (by decide)) (mk_lat gb.ok (pa.mono (by decide)) ?_)))
    rw [← pt_th a b ga.d1 gb.d1 ga.lh gb.lh] at pb ⊢
    exact mk_is (pb.mono (by decide)) ⟨_, rfl⟩
  · rintro ρ ⟨u, rfl⟩
    refine an rfl (an rfl (m2 (mk_then gw.ok gc.ok ?_)))
    refine m0 (an rfl (an rfl (m1 (an rfl (an rfl (m2 (mk_then gb.ok gc.ok (mk_then ga.ok gv.ok ?_))))))))
    refine an rfl (an rfl (mk_mne (th_assoc a b c ga.d1 gb.d1 gc.d1 ga.lh gb.lh gc.lh) ?_))
    refine an rfl (an rfl (m2 (mk_then gw.ok gc.ok ?_)))
    refine r2 (mk_lthen gw.ok gc.ok (mk_isM (th3_sz gw gc) ?_))
    exact m0 (r0 (mk_isM ga.ok.sz hQ))
theorem iter_sz (m : MvR) (g : m.Good) {k : Nat} (hk : k < 100) : (m.iter k).d.natAbs < 2 ^ 1900 ∧ Sz 1900 (m.iter k).p ∧ Sz 1900 (m.iter k).l ∧ Sz 1900 (m.iter k).h := (iter_ok m g k hk).sz
theorem good_d1 {m : MvR} (g : m.Good) (hd : m.d = 1) : m.d = 1 := hd
/-- done n times, for a number of turns from 1 to 100 -/
theorem mk_done {m : MvR} {n : Nat} {Q R : D → Prop} (g : m.Good) (h1 : 1 ≤ n) (h2 : n ≤ 100) (k : Q (m.iter (n - 1)).D) : f_Move_done [m.D, .int (n : Int)] Q R := by
  unfold f_Move_done
  refine ⟨m, .int (n : Int), true, rfl, g.ok, rfl, (fun z => nomatch z), fun _ => ⟨n, rfl, fun z => absurd z (by omega), fun _ => ⟨fun hd => ⟨?_, ?_⟩, fun hd => ⟨fun z => absurd z (by omega), fun _ => ⟨fun j hj => iter_ok m g j (by omega), ?_⟩⟩⟩⟩⟩
  · rw [Int.natAbs_natCast]
    exact Nat.lt_of_le_of_lt h2 (by exact Nat.lt_of_lt_of_le (show 100 < 2 ^ 7 by decide) (big (by decide)))
  · rw [iter_added m hd g.lh] at k
    have e : ((n - 1 : Nat) : Int) + 1 = (n : Int) := by omega
    rw [e] at k
    exact k
  · rw [Int.toNat_natCast]
    exact k
theorem mk_added' {m : MvR} {n : Int} {Q R : D → Prop} (g : m.Good) (hd : m.d = 1) (h1 : 1 ≤ n) (h2 : n.natAbs < 2 ^ 300) (k : Q (m.added n).D) : f_Move_done [m.D, .int n] Q R := by
  unfold f_Move_done
  exact ⟨m, .int n, true, rfl, g.ok, rfl, (fun z => nomatch z), fun _ => ⟨n, rfl, fun z => absurd z (by omega), fun _ => ⟨fun _ => ⟨h2, k⟩, fun z => absurd hd z⟩⟩⟩
theorem added_ok {m : MvR} {n : Int} (g : m.Good) (hn : n.natAbs < 2 ^ 300) : (m.added n).Ok := by
  have z1 : Sz 300 ((n : Int) : Rat) := sz_int hn (by decide)
  have z2 : Sz 301 ((n - 1 : Int) : Rat) := sz_int (by have := Nat.pow_succ 2 300; omega) (by decide)
  have zp : Sz 381 (m.p * ((n - 1 : Int) : Rat)) := sz_mul g.p.sz z2
  refine ⟨(show (1 : Int) ≤ 1 by decide), Nat.one_lt_two_pow (by decide), (sz_mul g.p.sz z1).mono (by decide), ?_, ?_, ?_⟩
  · exact sz_hold (g.l.sz.mono (by decide)) (g.h.sz.mono (by decide)) ((sz_add g.l.sz zp).mono (by decide))
  · exact sz_hold (g.l.sz.mono (by decide)) (g.h.sz.mono (by decide)) ((sz_add g.h.sz zp).mono (by decide))
  · exact hold_le g.lh (Rat.add_le_add_right.mpr g.lh)
/-- what is told of too many turns -/
theorem told_many {m : MvR} {n : Int} {P : D → Prop} {Q : D → Prop} (g : m.Good) (hd : m.d ≠ 1) (hn : 100 < n) (k : P (.lst [.str "many", .str "times", .int 100])) : f_Move_done [m.D, .int n] Q (TellsD clas P) := by
  unfold f_Move_done
  refine ⟨m, .int n, true, rfl, g.ok, rfl, (fun z => nomatch z), fun _ => ⟨n, rfl, fun z => absurd z (by omega), fun _ => ⟨fun z => absurd z hd, fun _ => ⟨fun _ => ?_, fun z => absurd z (by omega)⟩⟩⟩⟩
  exact ⟨⟨"TooMany", "many", [.fld "kind", .fld "limit"]⟩, by simp [clas], _, _, rfl, .fld rfl (.fld rfl .nil), k⟩
theorem ds_refl {ps : List D} {q : PyData} {Q : D → Prop} (h : dat (.lst ps) = some q) (hs : SeqAt.shaped q = true) (he : PyData.eqv q q = true) (k : Q (.bl true)) : fEqDat (.lst ps) (.lst ps) Q := by
  unfold fEqDat
  rw [h]
  show SeqAt.shaped q = true ∧ SeqAt.shaped q = true ∧ Q (.bl (PyData.eqv q q))
  rw [he]
  exact ⟨hs, hs, k⟩
theorem dn_refl {ps : List D} {q : PyData} {Q : D → Prop} (h : dat (.lst ps) = some q) (hs : SeqAt.shaped q = true) (he : PyData.eqv q q = true) (k : Q (.bl false)) : fNeDat (.lst ps) (.lst ps) Q := by
  unfold fNeDat
  rw [h]
  show SeqAt.shaped q = true ∧ SeqAt.shaped q = true ∧ Q (.bl (!PyData.eqv q q))
  rw [he]
  exact ⟨hs, hs, k⟩
theorem range1_go {j : Int} {Q : List D → Prop} (h1 : 0 ≤ j) (h2 : j < 2 ^ 40) (k : Q (rangeD 0 j.toNat)) : -(2 ^ 62) ≤ j ∧ j < 2 ^ 62 ∧ Q (rangeD 0 j.toNat) := ⟨by omega, by omega, k⟩
theorem pt_sz {m : MvR} (g : m.Good) {x : Rat} (hx : Sz 1000 x) : ∀ k : Nat, k ≤ 9 → Sz (1000 + 88 * k) (m.pts x k)
  | 0, _ => hx
  | k + 1, h => (sz_pt g (pt_sz g hx k (by omega)) (by omega)).mono (by omega)
theorem pow_eq (d : Int) (k : Nat) : ∀ {z : Int}, z = d ^ k → z * d = d ^ (k + 1) := fun e => by rw [e, Int.pow_succ]
theorem pow_sz {d : Int} (h : d.natAbs < 2 ^ 7) {k : Nat} (hk : k ≤ 100) : (d ^ k).natAbs < 2 ^ 4000 := Nat.lt_of_le_of_lt (na_pow h k) (Nat.pow_lt_pow_right (by decide) (by omega))
def dueT (EW : D → Prop) : WS := wSeq (wIf (wTst (wBin fGt (wBin fIx (wVar 1) (wC (.int 0))) (wC (.int 1)))) (wSeq (wPar2 9 10 (wCons (wLst (wCons (wTold clas (fun EW => wMeth "Move" "done" f_Move_done EW (wVar 6) (wCons (wC (.int 101)) (wNil)))) (wCons (wTold clas (fun EW => wMeth "Move" "done" f_Move_done EW (wVar 6) (wCons (wBin fPow (wC (.int 10)) (wC (.int 30))) (wNil)))) (wNil)))) (wCons (wC (.int 1)) (wNil)))) (wSeq (wFor (wIR1 (wCons (wC (.int 100)) (wNil))) (gN 2) (wAsg (wBin fMul (wVar 10) (wBin fIx (wVar 1) (wC (.int 0)))) (gN 10))) (wRet (wAndV (wBin fEqDat (wVar 9) (wBin fRep (wLst (wCons (wLst (wCons (wC (.str "many")) (wCons (wC (.str "times")) (wCons (wC (.int 100)) (wNil))))) (wNil))) (wC (.int 2)))) (wBin fEqI (wUn (selF "Move" "own_divisor") (wMeth "Move" "done" f_Move_done EW (wVar 6) (wCons (wC (.int 100)) (wNil)))) (wVar 10)))))) (wNext)) (wSeq (wAsg (wCall f_law_choice EW (wCons (wVar 0) (wCons (wLst (wCons (wC (.int 2)) (wCons (wC (.int 101)) (wCons (wBin fPow (wC (.int 10)) (wC (.int 6))) (wCons (wBin fPow (wC (.int 10)) (wC (.int 30))) (wCons (wBin fSub (wBin fPow (wC (.int 10)) (wC (.int 30))) (wC (.int 1))) (wCons (wBin fAdd (wC (.int 1)) (wCall f_law_draw EW (wCons (wVar 0) (wCons (wBin fPow (wC (.int 10)) (wC (.int 9))) (wNil))))) (wNil)))))))) (wNil)))) (gN 5)) (wSeq (wIf (wNot (wTst (wCall f_law_is_move EW (wCons (wMeth "Move" "done" f_Move_done EW (wVar 6) (wCons (wVar 5) (wNil))) (wCons (wCall f_law_raised EW (wCons (wVar 1) (wCons (wVar 5) (wNil)))) (wNil)))))) (wRet (wC (.bl false))) (wNext)) (wRet (wOrV (wBin fEqI (wVar 5) (wBin fPow (wC (.int 10)) (wC (.int 30)))) (wOwn2 "Move" (isC "Move") f_Move___eq__ EW (wMeth "Move" "then" f_Move_then EW (wMeth "Move" "done" f_Move_done EW (wVar 6) (wCons (wVar 5) (wNil))) (wCons (wVar 6) (wNil))) (wMeth "Move" "done" f_Move_done EW (wVar 6) (wCons (wBin fAdd (wVar 5) (wC (.int 1))) (wNil))))))))
theorem due_go {m : MvR} (g : m.Good) {Q EW : D → Prop} (hQ : Q (.bl true)) (p h t u v w : S) (ho : (p.isOwn || h.isOwn || t.isOwn || u.isOwn || v.isOwn || w.isOwn) = false) (dd : D) (nn : D) : dueT EW { nx := fun _ => Q .non, rt := Q } [.val .rng, .val m.row, t, p, h, u, .val m.D, .val dd, .val nn, v, w] := by
  refine row_ix0 ?_
  show (match decide (1 < m.d) with
    | true => _
    | false => _)
  by_cases h1 : 1 < m.d
  · rw [decide_eq_true h1]
    have hd : m.d ≠ 1 := by omega
    refine an rfl (an rfl (told_many g hd (by decide) ?_))
    refine an rfl (an rfl (an ⟨by decide, by decide, by decide⟩ (told_many g hd (by decide +kernel) (an len2 ?_))))
    refine an (by decide) (an (by decide) ?_)
    refine ⟨fun i ρ => ∃ q t, ρ = [.val .rng, .val m.row, t, p, h, u, .val m.D, .val dd, .val nn, .val (.lst [.lst [.str "many", .str "times", .int 100], .lst [.str "many", .str "times", .int 100]]), .val (.int q)] ∧ q = m.d ^ i ∧ i ≤ 100, ⟨1, _, rfl, (Int.pow_zero _).symm, by decide⟩, ?_, ?_⟩
    · rintro i d ρ hi ⟨q, t, rfl, hq, hl⟩
      obtain ⟨hlt, rfl⟩ := range_at hi
      have hlt : i < 100 := hlt
      refine row_ix0 (an (mulW4 (by rw [hq]; exact pow_sz g.d7 (by omega)) (Nat.lt_of_lt_of_le g.d7 (big (by decide)))) ?_)
      exact ⟨_, _, rfl, pow_eq m.d i hq, by omega⟩
    · rintro ρ ⟨q, t, rfl, hq, hl⟩
      rw [range_len] at hq
      have hq : q = m.d ^ 100 := hq
      refine an (len_le (n := 3) rfl (by decide)) (an (len_le (n := 1) rfl (by decide)) (an (by decide) (an (by decide) (an (by rw [sizeLine_eq]; decide) ?_))))
      refine ds_refl (ps := [.lst [.str "many", .str "times", .int 100], .lst [.str "many", .str "times", .int 100]]) rfl (by decide +kernel) (by decide +kernel) ?_
      refine an rfl (an rfl (mk_done (n := 100) g (by decide) (by decide) ?_))
      refine an rfl ?_
      show Q (.bl (decide ((m.iter 99).d = q)))
      rw [iter_d, hq, decide_eq_true rfl]
      exact hQ
  · rw [decide_eq_false h1]
    have hd : m.d = 1 := by
      have := g.d1
      omega
    have core : ∀ n : Int, 1 ≤ n → n ≤ 10 ^ 30 → (wSeq (wIf (wNot (wTst (wCall f_law_is_move EW (wCons (wMeth "Move" "done" f_Move_done EW (wVar 6) (wCons (wVar 5) (wNil))) (wCons (wCall f_law_raised EW (wCons (wVar 1) (wCons (wVar 5) (wNil)))) (wNil)))))) (wRet (wC (.bl false))) (wNext)) (wRet (wOrV (wBin fEqI (wVar 5) (wBin fPow (wC (.int 10)) (wC (.int 30)))) (wOwn2 "Move" (isC "Move") f_Move___eq__ EW (wMeth "Move" "then" f_Move_then EW (wMeth "Move" "done" f_Move_done EW (wVar 6) (wCons (wVar 5) (wNil))) (wCons (wVar 6) (wNil))) (wMeth "Move" "done" f_Move_done EW (wVar 6) (wCons (wBin fAdd (wVar 5) (wC (.int 1))) (wNil))))))) { nx := fun _ => Q .non, rt := Q } [.val .rng, .val m.row, t, p, h, .val (.int n), .val m.D, .val dd, .val nn, v, w] := fun n n1 n2 => by
      have b30 : (10 : Int) ^ 30 < 2 ^ 100 := by decide
      have bn : n.natAbs < 2 ^ 100 := by
        have : ((2 ^ 100 : Nat) : Int) = (2 : Int) ^ 100 := by decide
        omega
      have bn3 : n.natAbs < 2 ^ 300 := Nat.lt_of_lt_of_le bn (big (by decide))
      have bn1 : (n + 1).natAbs < 2 ^ 300 := Nat.lt_of_lt_of_le (show (n + 1).natAbs < 2 ^ 101 by have := Nat.pow_succ 2 100; omega) (big (by decide))
      refine an rfl (an rfl (mk_added' g hd n1 bn3 ?_))
      refine mk_raised g.ok (g.p.sz.mono (by decide)) n1 bn3 (mk_isM (added_ok g bn3).sz ?_)
      refine an ⟨by decide, by decide, by decide⟩ ?_
      show (match D.bl (decide (n = 10 ^ 30)) with
        | .bl true => _
        | .bl false => _
        | _ => False)
      by_cases hz : n = 10 ^ 30
      · rw [decide_eq_true hz]
        exact hQ
      · rw [decide_eq_false hz]
        refine an rfl (an rfl (mk_added' g hd n1 bn3 (an rfl (an rfl (mk_then (added_ok g bn3) g.ok ?_)))))
        refine an rfl (an rfl (mk_added' g hd (by omega) bn1 ?_))
        exact an rfl (an rfl (mk_meq (added_th m hd g.lh n n1) hQ))
    refine an ⟨by decide, by decide, by decide⟩ (an ⟨by decide, by decide, by decide⟩ (an ⟨by decide, by decide, by decide⟩ (an ⟨by decide, by decide, by decide⟩ (mk_draw (n := 1000000000) (by decide) (by decide) fun e e0 e1 => ?_))))
    refine an (len_le (n := 6) rfl (by decide)) (mk_choice (by simp) (show 6 < 2 ^ 40 by decide) ?_)
    intro d hd'
    simp only [List.mem_cons, List.not_mem_nil, or_false] at hd'
    have b30 : (10 : Int) ^ 30 = 1000000000000000000000000000000 := by decide
    rcases hd' with rfl | rfl | rfl | rfl | rfl | rfl
    · exact core 2 (by decide) (by decide)
    · exact core 101 (by decide) (by decide)
    · exact core (10 ^ 6) (by decide) (by decide)
    · exact core (10 ^ 30) (by decide) (by decide)
    · exact core (10 ^ 30 - 1) (by decide) (by decide)
    · exact core (1 + e) (by omega) (by omega)
theorem pure_law_done_right (ds : List D) (Q : D → Prop) (EW : D → Prop) (h : f_law_done_right ds Q EW) : ws_law_done_right EW { nx := fun _ => Q .non, rt := Q } (startD ["_law_rng_here", "_law_row", "_law_turn", "_law_part", "_law_here", "_law_great", "_law_made_here", "_law_due", "_law_many", "_law_told_here", "_law_power"] ds) := by
  unfold f_law_done_right at h
  obtain ⟨m, rfl, g, hQ⟩ := h
  have it_row : ∀ k, (m.iter (k + 1)).row = ((m.iter k).th m).row := fun k => rfl
  -- due := then(due, row), n - 1 times
  refine mk_made g.ok (mk_draw (by decide) (by decide) fun a a0 a1 => an (len_le (n := 3) rfl (by decide)) (an rfl ?_))
  obtain ⟨n, rfl⟩ := Int.eq_ofNat_of_zero_le a0
  have hn : n < 7 := by omega
  have e1 : (1 + (n : Int) - 1).toNat = n := by omega
  refine an (show -(2 ^ 62) ≤ 1 + (n : Int) - 1 by omega) (an (show 1 + (n : Int) - 1 < 2 ^ 62 by omega) ?_)
  refine ⟨fun i ρ => ∃ t, ρ = [.val .rng, .val m.row, t, .no, .no, .no, .val m.D, .val (m.iter i).row, .val (.int (1 + (n : Int))), .no, .no] ∧ t.isOwn = false ∧ i ≤ n, ⟨.no, rfl, rfl, by omega⟩, ?_, ?_⟩
  · rintro i d ρ hi ⟨t, rfl, ht, hl⟩
    obtain ⟨hlt, rfl⟩ := range_at hi
    refine mk_lthen (iter_ok m g i (by omega)) g.ok ⟨_, rfl, rfl, by omega⟩
  rintro ρ ⟨t, rfl, ht, hl⟩
  rw [range_len, e1]
  have done_n : ∀ {Q R : D → Prop}, Q (m.iter n).D → f_Move_done [m.D, .int (1 + (n : Int))] Q R := fun {Q R} k => by
    have e : (1 + (n : Int)) = ((n + 1 : Nat) : Int) := by omega
    rw [e]
    exact mk_done g (by omega) (by omega) k
  have done_1 : ∀ {Q R : D → Prop}, Q m.D → f_Move_done [m.D, .int 1] Q R := fun k => mk_done (n := 1) g (by decide) (by decide) k
  refine an rfl (an rfl (done_n (mk_isM (iter_sz m g (by omega)) ?_)))
  refine an rfl (an rfl (done_1 (mk_isM g.ok.sz ?_)))
  refine mk_nearM g.mid fun xs x0 xl xz => mk_choice (by simpa using x0) (by rw [List.length_map]; omega) fun d hd => ?_
  obtain ⟨x, hx, rfl⟩ := List.mem_map.mp hd
  have zx := xz x hx
  -- here := at(row, here), n + 1 times
  have e2 : (1 + (n : Int)).toNat = n + 1 := by omega
  refine an (show -(2 ^ 62) ≤ 1 + (n : Int) by omega) (an (show 1 + (n : Int) < 2 ^ 62 by omega) ?_)
  refine ⟨fun i ρ => ∃ t, ρ = [.val .rng, .val m.row, t, .val (tq x), .val (tq (m.pts x i)), .no, .val m.D, .val (m.iter n).row, .val (.int (1 + (n : Int))), .no, .no] ∧ t.isOwn = false ∧ i ≤ n + 1, ⟨_, rfl, ht, by omega⟩, ?_, ?_⟩
  · rintro i d ρ hi ⟨t, rfl, ht, hl⟩
    obtain ⟨hlt, rfl⟩ := range_at hi
    refine mk_lat g.ok ((pt_sz g zx i (by omega)).mono (by omega)) ⟨_, rfl, rfl, by omega⟩
  rintro ρ ⟨t, rfl, ht, hl⟩
  rw [range_len, e2]
  refine an rfl (an rfl (done_n (an rfl (an rfl (mk_real (zx.mono (by decide)) fun e ne => mk_at ne (iter_ok m g n (by omega)) (zx.mono (by decide)) ?_)))))
  have ep : mAt (m.iter n).d (m.iter n).p (m.iter n).l (m.iter n).h x = m.pts x (n + 1) := pt_iter m g.d1 g.lh x n
  rw [ep]
  refine mk_is ((pt_sz g zx (n + 1) (by omega)).mono (by omega)) ?_
  -- many times
  refine mk_draw (by decide) (by decide) fun b b0 b1 => ?_
  obtain ⟨k, rfl⟩ := Int.eq_ofNat_of_zero_le b0
  have hk : k < 93 := by omega
  have e3 : (8 + (k : Int) - 1).toNat = k + 7 := by omega
  refine an (show -(2 ^ 62) ≤ 8 + (k : Int) - 1 by omega) (an (show 8 + (k : Int) - 1 < 2 ^ 62 by omega) ?_)
  refine ⟨fun i ρ => ∃ t, ρ = [.val .rng, .val m.row, t, .val (tq x), .val (tq (m.pts x (n + 1))), .no, .val m.D, .val (m.iter i).row, .val (.int (8 + (k : Int))), .no, .no] ∧ t.isOwn = false ∧ i ≤ k + 7, ⟨_, rfl, ht, by omega⟩, ?_, ?_⟩
  · rintro i d ρ hi ⟨t, rfl, ht, hl⟩
    obtain ⟨hlt, rfl⟩ := range_at hi
    refine mk_lthen (iter_ok m g i (by omega)) g.ok ⟨_, rfl, rfl, by omega⟩
  rintro ρ ⟨t, rfl, ht, hl⟩
  rw [range_len, e3]
  have done_k : ∀ {Q R : D → Prop}, Q (m.iter (k + 7)).D → f_Move_done [m.D, .int (8 + (k : Int))] Q R := fun {Q R} h => by
    have e : (8 + (k : Int)) = ((k + 8 : Nat) : Int) := by omega
    rw [e]
    exact mk_done g (by omega) (by omega) h
  refine an rfl (an rfl (done_k (mk_isM (iter_sz m g (by omega)) ?_)))
  have fin := due_go (EW := EW) g hQ (.val (tq x)) (.val (tq (m.pts x (n + 1)))) t .no .no .no (by cases t <;> first | rfl | exact ht) (m.iter (k + 7)).row (.int (8 + (k : Int)))
  exact fin
theorem told_count {m : MvR} {d : D} {s : Str} {P Q : D → Prop} (g : m.Good) (hr : RtD d s) (hd : intB d = some false ∨ ∃ n : Int, d = .int n ∧ n < 1) (k : P (.lst [.str "count", .str s])) : f_Move_done [m.D, d] Q (TellsD clas P) := by
  have tl : TellsD clas P (.obj "InvalidCount" [("value", d)]) := ⟨⟨"InvalidCount", "count", [.txt "value"]⟩, by simp [clas], _, _, rfl, .txt rfl hr .nil, k⟩
  unfold f_Move_done
  rcases hd with hd | ⟨n, rfl, hn⟩
  · exact ⟨m, d, false, rfl, g.ok, hd, fun _ => tl, fun z => nomatch z⟩
  · exact ⟨m, .int n, true, rfl, g.ok, rfl, (fun z => nomatch z), fun _ => ⟨n, rfl, fun _ => tl, fun z => absurd z (by omega)⟩⟩
theorem told_move {m : MvR} {d : D} {P Q : D → Prop} (hd : isK d 3 = some false) (k : P (.lst [.str "move", .str "other"])) : f_Move_then [m.D, d] Q (TellsD clas P) := by
  unfold f_Move_then
  exact ⟨m.d, m.p, m.l, m.h, d, false, rfl, hd, fun _ => ⟨⟨"InvalidMove", "move", [.fld "part"]⟩, by simp [clas], _, _, rfl, .fld rfl .nil, k⟩, fun z => nomatch z⟩
theorem ro_1 : ro (Rat.divInt 1 1) = .obj "Ratio" [("own_top", .int 1), ("own_bottom", .int 1)] := by
  have h1 : (Rat.divInt 1 1).num = 1 := by decide +kernel
  have h2 : (Rat.divInt 1 1).den = 1 := by decide +kernel
  unfold ro
  rw [h1, h2]
  rfl
theorem ro_2 : ro (Rat.divInt 2 1) = .obj "Ratio" [("own_top", .int 2), ("own_bottom", .int 1)] := by
  have h1 : (Rat.divInt 2 1).num = 2 := by decide +kernel
  have h2 : (Rat.divInt 2 1).den = 1 := by decide +kernel
  unfold ro
  rw [h1, h2]
  rfl
theorem rt_1 : RtD (ro (Rat.divInt 1 1)) (ratioText 1 1) := by
  rw [ro_1]
  exact .own (by decide +kernel)
theorem rt_2 : RtD (ro (Rat.divInt 2 1)) (ratioText 2 1) := by
  rw [ro_2]
  exact .own (by decide +kernel)
def TxOk (s : Str) : Prop := SeqAt.shaped (.list [.str "count", .str s]) = true ∧ PyData.eqv (.list [.str "count", .str s]) (.list [.str "count", .str s]) = true
theorem pure_law_refused_right (ds : List D) (Q : D → Prop) (EW : D → Prop) (h : f_law_refused_right ds Q EW) : ws_law_refused_right EW { nx := fun _ => Q .non, rt := Q } (startD ["_law_rng_here", "_law_row", "_law_made_here", "_law_odd", "_law_thing"] ds) := by
  unfold f_law_refused_right at h
  obtain ⟨m, rfl, g, hQ⟩ := h
  refine mk_made g.ok ?_
  have core : ∀ (d : D) (s : Str), RtD d s → TxOk s → (intB d = some false ∨ ∃ n : Int, d = .int n ∧ n < 1) → (wSeq (wAsg (wCall f_law_choice EW (wCons (wVar 0) (wCons (wLst (wCons (wC .non) (wCons (wC (.int 3)) (wCons (wC (.str "move")) (wCons (wLst (wNil)) (wCons (wC .dct0) (wCons (wTup (wCons (wC (.int 1)) (wCons (wC (.int 0)) (wCons (wC (.int 0)) (wCons (wC (.int 1)) (wNil)))))) (wNil)))))))) (wNil)))) (gN 4)) (wSeq (wIf (wTst (wBin fNeDat (wTold clas (fun EW => wMeth "Move" "done" f_Move_done EW (wVar 2) (wCons (wVar 3) (wNil)))) (wLst (wCons (wC (.str "count")) (wCons (wB fReprA (wCons (wVar 3) (wNil))) (wNil)))))) (wRet (wC (.bl false))) (wNext)) (wRet (wAndV (wBin fEqDat (wTold clas (fun EW => wMeth "Move" "then" f_Move_then EW (wVar 2) (wCons (wVar 4) (wNil)))) (wLst (wCons (wC (.str "move")) (wCons (wC (.str "other")) (wNil))))) (wCall f_law_is_move EW (wCons (wVar 2) (wCons (wVar 1) (wNil)))))))) { nx := fun _ => Q .non, rt := Q } [.val .rng, .val m.row, .val m.D, .val d, .no] := by
    intro d s hr ht hd
    refine an (len_le (n := 0) rfl (by decide)) (an (len_le (n := 4) rfl (by decide)) (an (len_le (n := 6) rfl (by decide)) (mk_choice (by simp) (by decide) ?_)))
    have last : ∀ t : D, isK t 3 = some false → (wSeq (wIf (wTst (wBin fNeDat (wTold clas (fun EW => wMeth "Move" "done" f_Move_done EW (wVar 2) (wCons (wVar 3) (wNil)))) (wLst (wCons (wC (.str "count")) (wCons (wB fReprA (wCons (wVar 3) (wNil))) (wNil)))))) (wRet (wC (.bl false))) (wNext)) (wRet (wAndV (wBin fEqDat (wTold clas (fun EW => wMeth "Move" "then" f_Move_then EW (wVar 2) (wCons (wVar 4) (wNil)))) (wLst (wCons (wC (.str "move")) (wCons (wC (.str "other")) (wNil))))) (wCall f_law_is_move EW (wCons (wVar 2) (wCons (wVar 1) (wNil))))))) { nx := fun _ => Q .non, rt := Q } [.val .rng, .val m.row, .val m.D, .val d, .val t] := fun t h3 => by
      refine an rfl (an rfl (told_count g hr hd ?_))
      have rp : ∀ {Q' : D → Prop}, Q' (.str s) → fReprA [d] Q' := fun k => by
        unfold fReprA
        exact ⟨s, hr, k⟩
      refine rp (an len2 (dn_refl (ps := [.str "count", .str s]) rfl ht.1 ht.2 ?_))
      refine an rfl (an rfl (told_move h3 (an len2 (ds_refl (ps := [.str "move", .str "other"]) rfl (by decide +kernel) (by decide +kernel) ?_))))
      exact mk_isM g.ok.sz hQ
    intro t ht'
    simp only [List.mem_cons, List.not_mem_nil, or_false] at ht'
    rcases ht' with rfl | rfl | rfl | rfl | rfl | rfl <;> exact last _ rfl
  refine an (len_le (n := 0) rfl (by decide)) (mk_init1 (Nat.one_lt_two_pow (by decide)) (mk_init1 (Nat.lt_of_lt_of_le (show 2 < 2 ^ 2 by decide) (big (by decide))) ?_))
  refine an (len_le (n := 1) rfl (by decide)) (an (len_le (n := 11) rfl (by decide)) (mk_choice (by simp) (by decide) ?_))
  have dt : ∀ (d : D) (p : PyData), dat d = some p → DatOk p → RtD d p.shown := fun d p h1 h2 => .dat h1 h2
  intro d hd
  simp only [List.mem_cons, List.not_mem_nil, or_false] at hd
  rcases hd with rfl | rfl | rfl | rfl | rfl | rfl | rfl | rfl | rfl | rfl | rfl
  · exact core _ _ (dt _ .none rfl ⟨rfl, rfl, by decide +kernel, by rw [sizeLine_eq]; decide +kernel⟩) ⟨by decide +kernel, by decide +kernel⟩ (.inl rfl)
  · exact core _ _ (dt _ (.bool true) rfl ⟨rfl, rfl, by decide +kernel, by rw [sizeLine_eq]; decide +kernel⟩) ⟨by decide +kernel, by decide +kernel⟩ (.inl rfl)
  · exact core _ _ (dt _ (.bool false) rfl ⟨rfl, rfl, by decide +kernel, by rw [sizeLine_eq]; decide +kernel⟩) ⟨by decide +kernel, by decide +kernel⟩ (.inl rfl)
  · exact core _ _ (dt _ (.int 0) rfl ⟨by decide +kernel, rfl, by decide +kernel, by rw [sizeLine_eq]; decide +kernel⟩) ⟨by decide +kernel, by decide +kernel⟩ (.inr ⟨0, rfl, by decide⟩)
  · exact core (.int (-1)) _ (dt _ (.int (-1)) rfl ⟨by decide +kernel, rfl, by decide +kernel, by rw [sizeLine_eq]; decide +kernel⟩) ⟨by decide +kernel, by decide +kernel⟩ (.inr ⟨-1, rfl, by decide⟩)
  · exact core _ _ (dt _ (.str "1") rfl ⟨rfl, rfl, by decide +kernel, by rw [sizeLine_eq]; decide +kernel⟩) ⟨by decide +kernel, by decide +kernel⟩ (.inl rfl)
  · exact core _ _ (dt _ (.list []) rfl ⟨rfl, rfl, by decide +kernel, by rw [sizeLine_eq]; decide +kernel⟩) ⟨by decide +kernel, by decide +kernel⟩ (.inl rfl)
  · exact core _ _ rt_1 ⟨by decide +kernel, by decide +kernel⟩ (.inl rfl)
  · exact core _ _ rt_2 ⟨by decide +kernel, by decide +kernel⟩ (.inl rfl)
  · exact core _ _ (dt _ (.tuple [.int 1]) rfl ⟨by decide +kernel, rfl, by decide +kernel, by rw [sizeLine_eq]; decide +kernel⟩) ⟨by decide +kernel, by decide +kernel⟩ (.inl rfl)
  · exact core _ _ .dct ⟨by decide +kernel, by decide +kernel⟩ (.inl rfl)
theorem pure_law_right (ds : List D) (Q : D → Prop) (EW : D → Prop) (h : f_law_right ds Q EW) : ws_law_right EW { nx := fun _ => Q .non, rt := Q } (startD ["_law_rng_here", "_law_rows", "_law_flat", "_law_turn", "_law_row"] ds) := by
  unfold f_law_right at h
  obtain ⟨_, rfl, hQ⟩ := h
  refine an (by decide) (an (by decide) ?_)
  refine ⟨fun i acc => ∃ ms : List MvR, acc = ms.map MvR.row ∧ ms.length = i ∧ ∀ m ∈ ms, m.Good, ⟨[], rfl, rfl, fun _ z => by cases z⟩, ?_, ?_⟩
  · rintro i d acc hi ⟨ms, rfl, hl, hg⟩
    obtain ⟨hlt, rfl⟩ := range_at hi
    have hlt : i < 3 := hlt
    refine an (by rw [List.length_map, hl, sizeLine_eq]; omega) (mk_move fun m g => ⟨ms ++ [m], by simp, by simp [hl], fun x hx => ?_⟩)
    rcases List.mem_append.mp hx with hx | hx
    · exact hg x hx
    · simp only [List.mem_cons, List.not_mem_nil, or_false] at hx
      rw [hx]
      exact g
  · rintro acc ⟨ms, rfl, hl, hg⟩
    rw [range_len] at hl
    have hl : ms.length = 3 := hl
    obtain ⟨a, b, c, rfl⟩ : ∃ a b c, ms = [a, b, c] := by
      match ms, hl with
      | [a, b, c], _ => exact ⟨a, b, c, rfl⟩
    have ga := hg a (by simp)
    have gb := hg b (by simp)
    have gc := hg c (by simp)
    have tr : ∀ {x y z : MvR} {Q' : D → Prop}, x.Good → y.Good → z.Good → Q' (.bl true) → f_law_then_right [.rng, .lst [x.row, y.row, z.row]] Q' EW := fun h1 h2 h3 k => by
      unfold f_law_then_right
      exact ⟨_, _, _, rfl, h1, h2, h3, k⟩
    have r0 : ∀ {Q : D → Prop}, Q a.row → fIx (.lst [a.row, b.row, c.row]) (.int 0) Q := fun k => ixl (ds := [a.row, b.row, c.row]) (i := 0) rfl k
    have r1 : ∀ {Q : D → Prop}, Q b.row → fIx (.lst [a.row, b.row, c.row]) (.int 1) Q := fun k => ixl (ds := [a.row, b.row, c.row]) (i := 1) rfl k
    have r2 : ∀ {Q : D → Prop}, Q c.row → fIx (.lst [a.row, b.row, c.row]) (.int 2) Q := fun k => ixl (ds := [a.row, b.row, c.row]) (i := 2) rfl k
    refine tr ga gb gc (r1 (r1 (r0 (an (len_le (n := 3) rfl (by decide)) (tr gb gb ga ?_)))))
    have gf : MvR.Good ⟨1, c.p, c.l, c.h⟩ := ⟨(show (1 : Int) ≤ 1 by decide), (show (1 : Int) ≤ 99 by decide), gc.p, gc.l, gc.h, gc.lh⟩
    refine an (len_le (n := 1) rfl (by decide)) (r2 (an (by rw [sizeLine_eq]; exact (by decide : 1 + 3 ≤ 16777216)) ?_))
    refine an (len_le (n := 1) rfl (by decide)) (an (by rw [sizeLine_eq]; exact (by decide : 3 + 1 ≤ 16777216)) ?_)
    have dr : ∀ {x : MvR} {Q' R : D → Prop}, x.Good → Q' (.bl true) → f_law_done_right [.rng, x.row] Q' R := fun h1 k => by
      unfold f_law_done_right
      exact ⟨_, rfl, h1, k⟩
    refine ⟨fun i acc => acc = List.replicate i (.bl true), rfl, ?_, ?_⟩
    · rintro i d acc hi rfl
      have fin : ∀ x : MvR, x.Good → i < 4 → (List.replicate i (D.bl true)).length < sizeLine ∧ f_law_done_right [.rng, x.row] (fun y => List.replicate i (D.bl true) ++ [y] = List.replicate (i + 1) (.bl true)) (fun _ => False) := fun x gx hi => an (by rw [List.length_replicate, sizeLine_eq]; omega) (dr gx (List.replicate_succ' ..).symm)
      match i, hi with
      | 0, hi => cases hi; exact fin a ga (by decide)
      | 1, hi => cases hi; exact fin b gb (by decide)
      | 2, hi => cases hi; exact fin c gc (by decide)
      | 3, hi => cases hi; exact fin ⟨1, c.p, c.l, c.h⟩ gf (by decide)
      | i + 4, hi => simp at hi
    · rintro acc rfl
      have rr : ∀ {Q' : D → Prop}, Q' (.bl true) → f_law_refused_right [.rng, a.row] Q' EW := fun k => by
        unfold f_law_refused_right
        exact ⟨_, rfl, ga, k⟩
      exact r0 (rr hQ)
theorem len_law_choice : ∀ ds Q R, f_law_choice ds Q R → ds.length = 2 := by
  intro ds Q R h
  unfold f_law_choice at h
  obtain ⟨_, rfl, _⟩ := h
  rfl
theorem len_law_plain : ∀ ds Q R, f_law_plain ds Q R → ds.length = 2 := by
  intro ds Q R h
  unfold f_law_plain at h
  obtain ⟨_, _, rfl, _⟩ := h
  rfl
theorem len_law_sum : ∀ ds Q R, f_law_sum ds Q R → ds.length = 2 := by
  intro ds Q R h
  unfold f_law_sum at h
  obtain ⟨_, _, rfl, _⟩ := h
  rfl
theorem len_law_less : ∀ ds Q R, f_law_less ds Q R → ds.length = 2 := by
  intro ds Q R h
  unfold f_law_less at h
  obtain ⟨_, _, rfl, _⟩ := h
  rfl
theorem len_law_fraction : ∀ ds Q R, f_law_fraction ds Q R → ds.length = 1 := by
  intro ds Q R h
  unfold f_law_fraction at h
  obtain ⟨_, rfl, _⟩ := h
  rfl
theorem len_law_real : ∀ ds Q R, f_law_real ds Q R → ds.length = 2 := by
  intro ds Q R h
  unfold f_law_real at h
  obtain ⟨_, rfl, _⟩ := h
  rfl
theorem len_law_is : ∀ ds Q R, f_law_is ds Q R → ds.length = 2 := by
  intro ds Q R h
  unfold f_law_is at h
  obtain ⟨_, rfl, _⟩ := h
  rfl
theorem len_law_over : ∀ ds Q R, f_law_over ds Q R → ds.length = 2 := by
  intro ds Q R h
  unfold f_law_over at h
  obtain ⟨_, _, rfl, _⟩ := h
  rfl
theorem len_law_move : ∀ ds Q R, f_law_move ds Q R → ds.length = 1 := by
  intro ds Q R h
  unfold f_law_move at h
  obtain ⟨_, rfl, _⟩ := h
  rfl
theorem len_law_at : ∀ ds Q R, f_law_at ds Q R → ds.length = 2 := by
  intro ds Q R h
  unfold f_law_at at h
  obtain ⟨_, _, rfl, _⟩ := h
  rfl
theorem len_law_made : ∀ ds Q R, f_law_made ds Q R → ds.length = 2 := by
  intro ds Q R h
  unfold f_law_made at h
  obtain ⟨_, rfl, _⟩ := h
  rfl
theorem len_law_is_move : ∀ ds Q R, f_law_is_move ds Q R → ds.length = 2 := by
  intro ds Q R h
  unfold f_law_is_move at h
  obtain ⟨_, rfl, _⟩ := h
  rfl
theorem len_law_near : ∀ ds Q R, f_law_near ds Q R → ds.length = 2 := by
  intro ds Q R h
  unfold f_law_near at h
  obtain ⟨_, rfl, _⟩ := h
  rfl
theorem len_law_then : ∀ ds Q R, f_law_then ds Q R → ds.length = 2 := by
  intro ds Q R h
  unfold f_law_then at h
  obtain ⟨_, _, rfl, _⟩ := h
  rfl
theorem len_law_raised : ∀ ds Q R, f_law_raised ds Q R → ds.length = 2 := by
  intro ds Q R h
  unfold f_law_raised at h
  obtain ⟨_, _, rfl, _⟩ := h
  rfl
theorem len_law_then_right : ∀ ds Q R, f_law_then_right ds Q R → ds.length = 2 := by
  intro ds Q R h
  unfold f_law_then_right at h
  obtain ⟨_, _, _, rfl, _⟩ := h
  rfl
theorem len_law_done_right : ∀ ds Q R, f_law_done_right ds Q R → ds.length = 2 := by
  intro ds Q R h
  unfold f_law_done_right at h
  obtain ⟨_, rfl, _⟩ := h
  rfl
theorem len_law_refused_right : ∀ ds Q R, f_law_refused_right ds Q R → ds.length = 2 := by
  intro ds Q R h
  unfold f_law_refused_right at h
  obtain ⟨_, rfl, _⟩ := h
  rfl
theorem len_law_right : ∀ ds Q R, f_law_right ds Q R → ds.length = 1 := by
  intro ds Q R h
  unfold f_law_right at h
  obtain ⟨_, rfl, _⟩ := h
  rfl
end DL
namespace DL
open PySem PySem.Spec PyProof.Rows L2
abbrev R13 : PySem.W.OpenRow := PySem.W.OpenLaw.row PySem.Challenge.rw_fademodes_k13_whole_moves_behind_one_ano
def top (i : Nat) : Stmt := R13.prog.main.body.getD i (.Pass ⟨0, 0, 0, 0⟩)
def meth (s : Stmt) (j : Nat) : Stmt := match s with
  | .ClassDef _ _ _ b _ _ _ _ _ _ _ => b.getD j (.Pass ⟨0, 0, 0, 0⟩)
  | _ => .Pass ⟨0, 0, 0, 0⟩
abbrev s_is_integer : Stmt := top 10
abbrev s_is_number : Stmt := top 11
abbrev s_require_number : Stmt := top 12
abbrev s_divisor_of : Stmt := top 13
abbrev s_is_less : Stmt := top 14
abbrev s_Ratio___init__ : Stmt := meth (top 15) 0
abbrev s_Ratio_of : Stmt := meth (top 15) 1
abbrev s_extreme_of : Stmt := top 16
abbrev s_Ratio_least : Stmt := meth (top 15) 2
abbrev s_Ratio_greatest : Stmt := meth (top 15) 3
abbrev s_Ratio___add__ : Stmt := meth (top 15) 7
abbrev s_Ratio___mul__ : Stmt := meth (top 15) 9
abbrev s_Ratio_over : Stmt := meth (top 15) 12
abbrev s_Ratio___eq__ : Stmt := meth (top 15) 13
abbrev s_require_move : Stmt := top 19
abbrev s_Move___init__ : Stmt := meth (top 20) 0
abbrev s_Move_free : Stmt := meth (top 20) 9
abbrev s_Move_held : Stmt := meth (top 20) 19
abbrev s_Move_at : Stmt := meth (top 20) 10
abbrev s_Move_then : Stmt := meth (top 20) 11
abbrev s_Move_added : Stmt := meth (top 20) 18
abbrev s_Move_done : Stmt := meth (top 20) 17
abbrev s_Move___eq__ : Stmt := meth (top 20) 24
abbrev s_law_draw : Stmt := top 23
abbrev s_law_told : Stmt := top 37
abbrev s_law_rng : Stmt := top 22
abbrev s_law : Stmt := top 44
abbrev s_law_choice : Stmt := top 24
abbrev s_law_plain : Stmt := top 25
abbrev s_law_sum : Stmt := top 26
abbrev s_law_less : Stmt := top 27
abbrev s_law_fraction : Stmt := top 28
abbrev s_law_real : Stmt := top 29
abbrev s_law_is : Stmt := top 30
abbrev s_law_over : Stmt := top 31
abbrev s_law_move : Stmt := top 32
abbrev s_law_at : Stmt := top 33
abbrev s_law_made : Stmt := top 34
abbrev s_law_is_move : Stmt := top 35
abbrev s_law_near : Stmt := top 36
abbrev s_law_then : Stmt := top 38
abbrev s_law_raised : Stmt := top 39
abbrev s_law_then_right : Stmt := top 40
abbrev s_law_done_right : Stmt := top 41
abbrev s_law_refused_right : Stmt := top 42
abbrev s_law_right : Stmt := top 43
structure Fx (P : Program) (w : World) (K : PySem.W.Frag) (mg : Str → Option Value) (base : Heap) (T : Hp → Prop) : Prop where
  hT : TOk T
  n_int : mg "int" = none
  isi : IsiOk K isiT
  n_isinstance : mg "isinstance" = none
  n_bool : mg "bool" = none
  d_is_integer : ∃ fd, FunD K "is_integer" "is_integer" (defArgs s_is_integer) (defBody s_is_integer) (defScope s_is_integer) [] [] (He.ga K "is_integer") fd
  g_is_integer : mg "is_integer" = some (.ref (He.ga K "is_integer"))
  k_is_integer : PySem.W.keepIn K (.ref (He.ga K "is_integer")) = true
  g_Ratio : mg "Ratio" = some (.ref (He.ga K "Ratio"))
  d_is_number : ∃ fd, FunD K "is_number" "is_number" (defArgs s_is_number) (defBody s_is_number) (defScope s_is_number) [] [] (He.ga K "is_number") fd
  g_is_number : mg "is_number" = some (.ref (He.ga K "is_number"))
  k_is_number : PySem.W.keepIn K (.ref (He.ga K "is_number")) = true
  x_InvalidNumber : ∀ X : Cx, X.prog = P → X.w = w → X.K = K → X.mg = mg → X.base = base → ExcD X "InvalidNumber" 1 exm_InvalidNumber
  g_InvalidNumber : mg "InvalidNumber" = some (.ref (He.ga K "InvalidNumber"))
  d_require_number : ∃ fd, FunD K "require_number" "require_number" (defArgs s_require_number) (defBody s_require_number) (defScope s_require_number) [] [] (He.ga K "require_number") fd
  n_abs : mg "abs" = none
  d_divisor_of : ∃ fd, FunD K "divisor_of" "divisor_of" (defArgs s_divisor_of) (defBody s_divisor_of) (defScope s_divisor_of) [] [] (He.ga K "divisor_of") fd
  c_Ratio : Cls K (He.ga K "Ratio")
  no_Ratio_own_top : NoAttr K (He.ga K "Ratio") "own_top"
  p_Ratio_top : PropG P w K mg base "Ratio" "top" "own_top"
  no_Ratio_own_bottom : NoAttr K (He.ga K "Ratio") "own_bottom"
  p_Ratio_bottom : PropG P w K mg base "Ratio" "bottom" "own_bottom"
  d_is_less : ∃ fd, FunD K "is_less" "is_less" (defArgs s_is_less) (defBody s_is_less) (defScope s_is_less) [] [] (He.ga K "is_less") fd
  g_divisor_of : mg "divisor_of" = some (.ref (He.ga K "divisor_of"))
  k_divisor_of : PySem.W.keepIn K (.ref (He.ga K "divisor_of")) = true
  d_Ratio___init__ : ∃ fd, FunD K "__init__" "Ratio.__init__" (defArgs s_Ratio___init__) (defBody s_Ratio___init__) (defScope s_Ratio___init__) [.int 1] [] (He.ma K (He.ga K "Ratio") "__init__") fd
  g_require_number : mg "require_number" = some (.ref (He.ga K "require_number"))
  k_require_number : PySem.W.keepIn K (.ref (He.ga K "require_number")) = true
  mk_Ratio : Mk K (He.ga K "Ratio") (He.ma K (He.ga K "Ratio") "__init__")
  d_Ratio_of : ∃ fd, FunD K "of" "Ratio.of" (defArgs s_Ratio_of) (defBody s_Ratio_of) (defScope s_Ratio_of) [] [] (He5.wf K (He.ga K "Ratio") "classmethod" "of") fd
  n_len : mg "len" = none
  cr_Ratio : ClX.CRead K (He.ga K "Ratio") (.type "type")
  cm_Ratio_of : ClX.CMet K (He.ga K "Ratio") (.type "type") "of" (He.ma K (He.ga K "Ratio") "of") (He5.wf K (He.ga K "Ratio") "classmethod" "of")
  g_is_less : mg "is_less" = some (.ref (He.ga K "is_less"))
  k_is_less : PySem.W.keepIn K (.ref (He.ga K "is_less")) = true
  d_extreme_of : ∃ fd, FunD K "extreme_of" "extreme_of" (defArgs s_extreme_of) (defBody s_extreme_of) (defScope s_extreme_of) [] [] (He.ga K "extreme_of") fd
  g_extreme_of : mg "extreme_of" = some (.ref (He.ga K "extreme_of"))
  k_extreme_of : PySem.W.keepIn K (.ref (He.ga K "extreme_of")) = true
  d_Ratio_least : ∃ fd, FunD K "least" "Ratio.least" (defArgs s_Ratio_least) (defBody s_Ratio_least) (defScope s_Ratio_least) [] [] (He5.wf K (He.ga K "Ratio") "classmethod" "least") fd
  d_Ratio_greatest : ∃ fd, FunD K "greatest" "Ratio.greatest" (defArgs s_Ratio_greatest) (defBody s_Ratio_greatest) (defScope s_Ratio_greatest) [] [] (He5.wf K (He.ga K "Ratio") "classmethod" "greatest") fd
  d_Ratio___add__ : ∃ fd, FunD K "__add__" "Ratio.__add__" (defArgs s_Ratio___add__) (defBody s_Ratio___add__) (defScope s_Ratio___add__) [] [] (He.ma K (He.ga K "Ratio") "__add__") fd
  d_Ratio___mul__ : ∃ fd, FunD K "__mul__" "Ratio.__mul__" (defArgs s_Ratio___mul__) (defBody s_Ratio___mul__) (defScope s_Ratio___mul__) [] [] (He.ma K (He.ga K "Ratio") "__mul__") fd
  d_Ratio_over : ∃ fd, FunD K "over" "Ratio.over" (defArgs s_Ratio_over) (defBody s_Ratio_over) (defScope s_Ratio_over) [] [] (He.ma K (He.ga K "Ratio") "over") fd
  d_Ratio___eq__ : ∃ fd, FunD K "__eq__" "Ratio.__eq__" (defArgs s_Ratio___eq__) (defBody s_Ratio___eq__) (defScope s_Ratio___eq__) [] [] (He.ma K (He.ga K "Ratio") "__eq__") fd
  g_Move : mg "Move" = some (.ref (He.ga K "Move"))
  x_InvalidMove : ∀ X : Cx, X.prog = P → X.w = w → X.K = K → X.mg = mg → X.base = base → ExcD X "InvalidMove" 1 exm_InvalidMove
  g_InvalidMove : mg "InvalidMove" = some (.ref (He.ga K "InvalidMove"))
  d_require_move : ∃ fd, FunD K "require_move" "require_move" (defArgs s_require_move) (defBody s_require_move) (defScope s_require_move) [] [] (He.ga K "require_move") fd
  c_Move : Cls K (He.ga K "Move")
  no_Move_own_divisor : NoAttr K (He.ga K "Move") "own_divisor"
  no_Move_own_plus : NoAttr K (He.ga K "Move") "own_plus"
  no_Move_own_low : NoAttr K (He.ga K "Move") "own_low"
  no_Move_own_high : NoAttr K (He.ga K "Move") "own_high"
  d_Move___init__ : ∃ fd, FunD K "__init__" "Move.__init__" (defArgs s_Move___init__) (defBody s_Move___init__) (defScope s_Move___init__) [] [] (He.ma K (He.ga K "Move") "__init__") fd
  ow_Ratio___add__ : OwnAt K "Ratio" "__add__" (He.ma K (He.ga K "Ratio") "__add__")
  sf_Ratio : PySem.W.selfFirst K (He.ga K "Ratio") = true
  m_Ratio_over : Meth K (He.ga K "Ratio") "over" (He.ma K (He.ga K "Ratio") "over")
  d_Move_free : ∃ fd, FunD K "free" "Move.free" (defArgs s_Move_free) (defBody s_Move_free) (defScope s_Move_free) [] [] (He.ma K (He.ga K "Move") "free") fd
  cm_Ratio_greatest : ClX.CMet K (He.ga K "Ratio") (.type "type") "greatest" (He.ma K (He.ga K "Ratio") "greatest") (He5.wf K (He.ga K "Ratio") "classmethod" "greatest")
  cm_Ratio_least : ClX.CMet K (He.ga K "Ratio") (.type "type") "least" (He.ma K (He.ga K "Ratio") "least") (He5.wf K (He.ga K "Ratio") "classmethod" "least")
  d_Move_held : ∃ fd, FunD K "held" "Move.held" (defArgs s_Move_held) (defBody s_Move_held) (defScope s_Move_held) [] [] (He.ma K (He.ga K "Move") "held") fd
  m_Move_free : Meth K (He.ga K "Move") "free" (He.ma K (He.ga K "Move") "free")
  m_Move_held : Meth K (He.ga K "Move") "held" (He.ma K (He.ga K "Move") "held")
  d_Move_at : ∃ fd, FunD K "at" "Move.at" (defArgs s_Move_at) (defBody s_Move_at) (defScope s_Move_at) [] [] (He.ma K (He.ga K "Move") "at") fd
  g_require_move : mg "require_move" = some (.ref (He.ga K "require_move"))
  k_require_move : PySem.W.keepIn K (.ref (He.ga K "require_move")) = true
  p_Move_plus : PropG P w K mg base "Move" "plus" "own_plus"
  ow_Ratio___mul__ : OwnAt K "Ratio" "__mul__" (He.ma K (He.ga K "Ratio") "__mul__")
  oi_Ratio___mul__ : OwnI K "Ratio" (PySem.dunder Operator.Mult.info.2) (PySem.dunderR Operator.Mult.info.2)
  p_Move_divisor : PropG P w K mg base "Move" "divisor" "own_divisor"
  m_Move_at : Meth K (He.ga K "Move") "at" (He.ma K (He.ga K "Move") "at")
  mk_Move : Mk K (He.ga K "Move") (He.ma K (He.ga K "Move") "__init__")
  d_Move_then : ∃ fd, FunD K "then" "Move.then" (defArgs s_Move_then) (defBody s_Move_then) (defScope s_Move_then) [] [] (He.ma K (He.ga K "Move") "then") fd
  d_Move_added : ∃ fd, FunD K "added" "Move.added" (defArgs s_Move_added) (defBody s_Move_added) (defScope s_Move_added) [] [] (He.ma K (He.ga K "Move") "added") fd
  x_InvalidCount : ∀ X : Cx, X.prog = P → X.w = w → X.K = K → X.mg = mg → X.base = base → ExcD X "InvalidCount" 1 exm_InvalidCount
  g_InvalidCount : mg "InvalidCount" = some (.ref (He.ga K "InvalidCount"))
  m_Move_added : Meth K (He.ga K "Move") "added" (He.ma K (He.ga K "Move") "added")
  i_MOST_TIMES : ∃ t, mg "MOST_TIMES" = some (.int 100 t)
  x_TooMany : ∀ X : Cx, X.prog = P → X.w = w → X.K = K → X.mg = mg → X.base = base → ExcD X "TooMany" 2 exm_TooMany
  g_TooMany : mg "TooMany" = some (.ref (He.ga K "TooMany"))
  n_range : mg "range" = none
  m_Move_then : Meth K (He.ga K "Move") "then" (He.ma K (He.ga K "Move") "then")
  d_Move_done : ∃ fd, FunD K "done" "Move.done" (defArgs s_Move_done) (defBody s_Move_done) (defScope s_Move_done) [] [] (He.ma K (He.ga K "Move") "done") fd
  ow_Ratio___eq__ : OwnAt K "Ratio" "__eq__" (He.ma K (He.ga K "Ratio") "__eq__")
  ne_Ratio : PySem.W.findIn K (.ref (He.ga K "Ratio")) "__ne__" = some (some (.builtin "object.__ne__"))
  mo_Ratio : PySem.W.mroIn K (He.ga K "Ratio") (.type "object") = some true
  d_Move___eq__ : ∃ fd, FunD K "__eq__" "Move.__eq__" (defArgs s_Move___eq__) (defBody s_Move___eq__) (defScope s_Move___eq__) [] [] (He.ma K (He.ga K "Move") "__eq__") fd
  g__law_draw : mg "_law_draw" = some (.ref (He.ga K "_law_draw"))
  k__law_draw : PySem.W.keepIn K (.ref (He.ga K "_law_draw")) = true
  d_law_choice : ∃ fd, FunD K "_law_choice" "_law_choice" (defArgs s_law_choice) (defBody s_law_choice) (defScope s_law_choice) [] [] (He.ga K "_law_choice") fd
  d_law_plain : ∃ fd, FunD K "_law_plain" "_law_plain" (defArgs s_law_plain) (defBody s_law_plain) (defScope s_law_plain) [] [] (He.ga K "_law_plain") fd
  g__law_plain : mg "_law_plain" = some (.ref (He.ga K "_law_plain"))
  k__law_plain : PySem.W.keepIn K (.ref (He.ga K "_law_plain")) = true
  d_law_sum : ∃ fd, FunD K "_law_sum" "_law_sum" (defArgs s_law_sum) (defBody s_law_sum) (defScope s_law_sum) [] [] (He.ga K "_law_sum") fd
  d_law_less : ∃ fd, FunD K "_law_less" "_law_less" (defArgs s_law_less) (defBody s_law_less) (defScope s_law_less) [] [] (He.ga K "_law_less") fd
  g__law_choice : mg "_law_choice" = some (.ref (He.ga K "_law_choice"))
  k__law_choice : PySem.W.keepIn K (.ref (He.ga K "_law_choice")) = true
  d_law_fraction : ∃ fd, FunD K "_law_fraction" "_law_fraction" (defArgs s_law_fraction) (defBody s_law_fraction) (defScope s_law_fraction) [] [] (He.ga K "_law_fraction") fd
  d_law_real : ∃ fd, FunD K "_law_real" "_law_real" (defArgs s_law_real) (defBody s_law_real) (defScope s_law_real) [] [] (He.ga K "_law_real") fd
  n_repr : mg "repr" = none
  d_law_is : ∃ fd, FunD K "_law_is" "_law_is" (defArgs s_law_is) (defBody s_law_is) (defScope s_law_is) [] [] (He.ga K "_law_is") fd
  d_law_over : ∃ fd, FunD K "_law_over" "_law_over" (defArgs s_law_over) (defBody s_law_over) (defScope s_law_over) [] [] (He.ga K "_law_over") fd
  g__law_fraction : mg "_law_fraction" = some (.ref (He.ga K "_law_fraction"))
  k__law_fraction : PySem.W.keepIn K (.ref (He.ga K "_law_fraction")) = true
  g__law_less : mg "_law_less" = some (.ref (He.ga K "_law_less"))
  k__law_less : PySem.W.keepIn K (.ref (He.ga K "_law_less")) = true
  d_law_move : ∃ fd, FunD K "_law_move" "_law_move" (defArgs s_law_move) (defBody s_law_move) (defScope s_law_move) [] [] (He.ga K "_law_move") fd
  g__law_sum : mg "_law_sum" = some (.ref (He.ga K "_law_sum"))
  k__law_sum : PySem.W.keepIn K (.ref (He.ga K "_law_sum")) = true
  g__law_over : mg "_law_over" = some (.ref (He.ga K "_law_over"))
  k__law_over : PySem.W.keepIn K (.ref (He.ga K "_law_over")) = true
  d_law_at : ∃ fd, FunD K "_law_at" "_law_at" (defArgs s_law_at) (defBody s_law_at) (defScope s_law_at) [] [] (He.ga K "_law_at") fd
  g__law_real : mg "_law_real" = some (.ref (He.ga K "_law_real"))
  k__law_real : PySem.W.keepIn K (.ref (He.ga K "_law_real")) = true
  d_law_made : ∃ fd, FunD K "_law_made" "_law_made" (defArgs s_law_made) (defBody s_law_made) (defScope s_law_made) [] [] (He.ga K "_law_made") fd
  g__law_is : mg "_law_is" = some (.ref (He.ga K "_law_is"))
  k__law_is : PySem.W.keepIn K (.ref (He.ga K "_law_is")) = true
  p_Move_low : PropG P w K mg base "Move" "low" "own_low"
  p_Move_high : PropG P w K mg base "Move" "high" "own_high"
  d_law_is_move : ∃ fd, FunD K "_law_is_move" "_law_is_move" (defArgs s_law_is_move) (defBody s_law_is_move) (defScope s_law_is_move) [] [] (He.ga K "_law_is_move") fd
  d_law_near : ∃ fd, FunD K "_law_near" "_law_near" (defArgs s_law_near) (defBody s_law_near) (defScope s_law_near) [] [] (He.ga K "_law_near") fd
  g__law_at : mg "_law_at" = some (.ref (He.ga K "_law_at"))
  k__law_at : PySem.W.keepIn K (.ref (He.ga K "_law_at")) = true
  d_law_then : ∃ fd, FunD K "_law_then" "_law_then" (defArgs s_law_then) (defBody s_law_then) (defScope s_law_then) [] [] (He.ga K "_law_then") fd
  d_law_raised : ∃ fd, FunD K "_law_raised" "_law_raised" (defArgs s_law_raised) (defBody s_law_raised) (defScope s_law_raised) [] [] (He.ga K "_law_raised") fd
  g__law_made : mg "_law_made" = some (.ref (He.ga K "_law_made"))
  k__law_made : PySem.W.keepIn K (.ref (He.ga K "_law_made")) = true
  g__law_then : mg "_law_then" = some (.ref (He.ga K "_law_then"))
  k__law_then : PySem.W.keepIn K (.ref (He.ga K "_law_then")) = true
  g__law_is_move : mg "_law_is_move" = some (.ref (He.ga K "_law_is_move"))
  k__law_is_move : PySem.W.keepIn K (.ref (He.ga K "_law_is_move")) = true
  g__law_near : mg "_law_near" = some (.ref (He.ga K "_law_near"))
  k__law_near : PySem.W.keepIn K (.ref (He.ga K "_law_near")) = true
  ow_Move___eq__ : OwnAt K "Move" "__eq__" (He.ma K (He.ga K "Move") "__eq__")
  ne_Move : PySem.W.findIn K (.ref (He.ga K "Move")) "__ne__" = some (some (.builtin "object.__ne__"))
  mo_Move : PySem.W.mroIn K (He.ga K "Move") (.type "object") = some true
  d_law_then_right : ∃ fd, FunD K "_law_then_right" "_law_then_right" (defArgs s_law_then_right) (defBody s_law_then_right) (defScope s_law_then_right) [] [] (He.ga K "_law_then_right") fd
  m_Move_done : Meth K (He.ga K "Move") "done" (He.ma K (He.ga K "Move") "done")
  g__law_raised : mg "_law_raised" = some (.ref (He.ga K "_law_raised"))
  k__law_raised : PySem.W.keepIn K (.ref (He.ga K "_law_raised")) = true
  d_law_done_right : ∃ fd, FunD K "_law_done_right" "_law_done_right" (defArgs s_law_done_right) (defBody s_law_done_right) (defScope s_law_done_right) [] [] (He.ga K "_law_done_right") fd
  d_law_refused_right : ∃ fd, FunD K "_law_refused_right" "_law_refused_right" (defArgs s_law_refused_right) (defBody s_law_refused_right) (defScope s_law_refused_right) [] [] (He.ga K "_law_refused_right") fd
  g__law_move : mg "_law_move" = some (.ref (He.ga K "_law_move"))
  k__law_move : PySem.W.keepIn K (.ref (He.ga K "_law_move")) = true
  g__law_then_right : mg "_law_then_right" = some (.ref (He.ga K "_law_then_right"))
  k__law_then_right : PySem.W.keepIn K (.ref (He.ga K "_law_then_right")) = true
  g__law_done_right : mg "_law_done_right" = some (.ref (He.ga K "_law_done_right"))
  k__law_done_right : PySem.W.keepIn K (.ref (He.ga K "_law_done_right")) = true
  n_all : mg "all" = none
  g__law_refused_right : mg "_law_refused_right" = some (.ref (He.ga K "_law_refused_right"))
  k__law_refused_right : PySem.W.keepIn K (.ref (He.ga K "_law_refused_right")) = true
  d_law_right : ∃ fd, FunD K "_law_right" "_law_right" (defArgs s_law_right) (defBody s_law_right) (defScope s_law_right) [] [] (He.ga K "_law_right") fd
  d_law_draw : ∃ fd, FunD K "_law_draw" "_law_draw" (defArgs s_law_draw) (defBody s_law_draw) (defScope s_law_draw) [] [] (He.ga K "_law_draw") fd
  n_divmod : mg "divmod" = none
  n_max : mg "max" = none
  n_min : mg "min" = none
  g__law_rng : mg "_law_rng" = some (.ref (He.ga K "_law_rng"))
  k__law_rng : PySem.W.keepIn K (.ref (He.ga K "_law_rng")) = true
  g__law_right : mg "_law_right" = some (.ref (He.ga K "_law_right"))
  k__law_right : PySem.W.keepIn K (.ref (He.ga K "_law_right")) = true
  d_law_rng : ∃ fd, FunD K "_law_rng" "_law_rng" (defArgs s_law_rng) (defBody s_law_rng) (defScope s_law_rng) [] [] (He.ga K "_law_rng") fd
  repK : RepK P w K mg base
  d_law_told : ∃ fd, FunD K "_law_told" "_law_told" (defArgs s_law_told) (defBody s_law_told) (defScope s_law_told) [] [] (He.ga K "_law_told") fd
  g__law_told : mg "_law_told" = some (.ref (He.ga K "_law_told"))
  k__law_told : PySem.W.keepIn K (.ref (He.ga K "_law_told")) = true
  exm : ∀ (i j : Nat) (a b : Cla), clas[i]? = some a → clas[j]? = some b → PySem.W.exmOne K (.ref (He.ga K a.c)) (.ref (He.ga K b.c)) = some (decide (i = j))
  xf_InvalidMove : XfC K (He.ga K "InvalidMove")
  no_InvalidMove_part : NoAttr K (He.ga K "InvalidMove") "part"
  xf_InvalidCount : XfC K (He.ga K "InvalidCount")
  no_InvalidCount_value : NoAttr K (He.ga K "InvalidCount") "value"
  xf_TooMany : XfC K (He.ga K "TooMany")
  no_TooMany_kind : NoAttr K (He.ga K "TooMany") "kind"
  no_TooMany_limit : NoAttr K (He.ga K "TooMany") "limit"
  tT : T = LamX.Tabs (Tbs K)
  tb : ∀ x ∈ lamOf, LamX.TabB base mg (He.cT K (x, none)).1 (He.cT K (x, none)).2
  tne : (He.cT K ("_law_done_right", none)).2 ≠ (He.cT K ("_law_refused_right", none)).2
end DL
namespace DL
open PySem PySem.Spec PyProof.Rows L2
theorem bindStar {K : PySem.W.Frag} {x qual : Str} {params : Arguments} {body : List Stmt} {scope : Scope} {fa : Addr} {fd : FuncData} {ps : List Str} {pv : Str} (F : FunD K x qual params body scope [] [] fa fd)
    (h : ∀ (kV doc pm : Value) (an : Option Addr) (cdv ct : Value) (us rest : List Value), us.length = ps.length → bindArgs (PySem.W.fnOf x qual params body scope .none kV doc pm an cdv ct) ⟨us ++ rest, []⟩ = (newTuple rest >>= fun t => pure (ps.zip us ++ [(pv, t)]))) :
    ∀ us rest : List Value, us.length = ps.length → bindArgs fd ⟨us ++ rest, []⟩ = (newTuple rest >>= fun t => pure (ps.zip us ++ [(pv, t)])) := by
  obtain ⟨oc, od, dV, kV, doc, pm, an, cdv, ct, osl, rfl, lk, hcd, hD, hK⟩ := F.ex
  rcases hD with ⟨_, rfl⟩ | ⟨e, _⟩
  · exact fun us rest hl => h kV doc pm an cdv ct us rest hl
  · exact absurd rfl e
section
variable {P : Program} {w : World} {K : PySem.W.Frag} {mg : Str → Option Value} {base : Heap} {T : Hp → Prop}
/-! is_integer -/
theorem sc_is_integer : FnScope ["value"] ["value"] (defScope s_is_integer) := ⟨rfl, rfl, rfl, by decide +kernel, rfl, by decide +kernel, by decide +kernel⟩
theorem ok_is_integer (c : Fx P w K mg base T) : FnR P w K mg base (L2.CX P w) 1 (He.ga K "is_integer") (spD T K f_is_integer) := by
  obtain ⟨fd, Fd⟩ := c.d_is_integer
  have S := sc_is_integer
  refine fnR_of Fd S (Fd.bindsN fun _ _ _ _ _ _ us hl => match us, hl with | [_], _ => rfl) len_is_integer c.hT ?_
  intro cdv A outer s H E g EW ds Q hg hgd B hf
  subst hg
  exact ⟨ws_is_integer EW, ds_one (ds_ret (d_and (d_b (cd_isi c.isi) c.n_isinstance rfl (da_cons (d_var 0) (da_cons (d_tyv (v := "int") c.n_int rfl) (da_nil)))) (d_one (d_not (d_b (cd_isi c.isi) c.n_isinstance rfl (da_cons (d_var 0) (da_cons (d_tyv (v := "bool") c.n_bool rfl) (da_nil)))))))), pure_is_integer ds Q EW hf⟩
/-! is_number -/
theorem sc_is_number : FnScope ["value"] ["value"] (defScope s_is_number) := ⟨rfl, rfl, rfl, by decide +kernel, rfl, by decide +kernel, by decide +kernel⟩
theorem ok_is_number (c : Fx P w K mg base T) : FnR P w K mg base (L2.CX P w) 2 (He.ga K "is_number") (spD T K f_is_number) := by
  obtain ⟨fd, Fd⟩ := c.d_is_number
  have S := sc_is_number
  refine fnR_of Fd S (Fd.bindsN fun _ _ _ _ _ _ us hl => match us, hl with | [_], _ => rfl) len_is_number c.hT ?_
  intro cdv A outer s H E g EW ds Q hg hgd B hf
  subst hg
  exact ⟨ws_is_number EW, ds_one (ds_ret (d_orv (d_fn (ok_is_integer c) (B.room.mono (by decide)) c.g_is_integer c.k_is_integer B.pass (da_cons (d_var 0) (da_nil))) (d_one (d_b (cd_isi c.isi) c.n_isinstance rfl (da_cons (d_var 0) (da_cons (d_cls c.g_Ratio) (da_nil))))))), pure_is_number ds Q EW hf⟩
/-! require_number -/
theorem sc_require_number : FnScope ["value"] ["value"] (defScope s_require_number) := ⟨rfl, rfl, rfl, by decide +kernel, rfl, by decide +kernel, by decide +kernel⟩
theorem ok_require_number (c : Fx P w K mg base T) : FnR P w K mg base (L2.CX P w) 4 (He.ga K "require_number") (spD T K f_require_number) := by
  obtain ⟨fd, Fd⟩ := c.d_require_number
  have S := sc_require_number
  refine fnR_of Fd S (Fd.bindsN fun _ _ _ _ _ _ us hl => match us, hl with | [_], _ => rfl) len_require_number c.hT ?_
  intro cdv A outer s H E g EW ds Q hg hgd B hf
  subst hg
  exact ⟨ws_require_number EW, ds_one (ds_if (dt_not (dt_val (d_fn (ok_is_number c) (B.room.mono (by decide)) c.g_is_number c.k_is_number B.pass (da_cons (d_var 0) (da_nil))))) (ds_one (ds_raise rfl (c.x_InvalidNumber _ rfl rfl rfl rfl rfl) exr_InvalidNumber (by decide) (B.room.mono (by decide)) c.g_InvalidNumber B.take B.hT (da_cons (d_var 0) (da_nil)))) (ds_nil)), pure_require_number ds Q EW hf⟩
/-! divisor_of -/
theorem sc_divisor_of : FnScope ["one", "other"] ["one", "other"] (defScope s_divisor_of) := ⟨rfl, rfl, rfl, by decide +kernel, rfl, by decide +kernel, by decide +kernel⟩
theorem ok_divisor_of (c : Fx P w K mg base T) : FnR P w K mg base (L2.CX P w) 1 (He.ga K "divisor_of") (spD T K f_divisor_of) := by
  obtain ⟨fd, Fd⟩ := c.d_divisor_of
  have S := sc_divisor_of
  refine fnR_of Fd S (Fd.bindsN fun _ _ _ _ _ _ us hl => match us, hl with | [_, _], _ => rfl) len_divisor_of c.hT ?_
  intro cdv A outer s H E g EW ds Q hg hgd B hf
  subst hg
  exact ⟨ws_divisor_of EW, ds_cons (ds_par2' rfl S.nd (da_cons (d_b (cd_abs) c.n_abs rfl (da_cons (d_var 0) (da_nil))) (da_cons (d_b (cd_abs) c.n_abs rfl (da_cons (d_var 1) (da_nil))) (da_nil))) rfl) (ds_cons (ds_while (passes_of rfl) (dt_cmp od_gt (d_var 1) (d_int)) (ds_one (ds_par2' rfl S.nd (da_cons (d_var 1) (da_cons (d_op od_mod (d_var 0) (d_var 1)) (da_nil))) rfl))) (ds_one (ds_ret (d_var 0)))), pure_divisor_of ds Q EW hf⟩
/-! is_less -/
theorem sc_is_less : FnScope ["one", "other"] ["one", "other"] (defScope s_is_less) := ⟨rfl, rfl, rfl, by decide +kernel, rfl, by decide +kernel, by decide +kernel⟩
theorem ok_is_less (c : Fx P w K mg base T) : FnR P w K mg base (L2.CX P w) 4 (He.ga K "is_less") (spD T K f_is_less) := by
  obtain ⟨fd, Fd⟩ := c.d_is_less
  have S := sc_is_less
  refine fnR_of Fd S (Fd.bindsN fun _ _ _ _ _ _ us hl => match us, hl with | [_, _], _ => rfl) len_is_less c.hT ?_
  intro cdv A outer s H E g EW ds Q hg hgd B hf
  subst hg
  exact ⟨ws_is_less EW, ds_one (ds_ret (d_cmp od_lt (d_op od_mul (d_prop (propOk c.p_Ratio_top) (B.room.mono (by decide)) (d_var 0)) (d_prop (propOk c.p_Ratio_bottom) (B.room.mono (by decide)) (d_var 1))) (d_op od_mul (d_prop (propOk c.p_Ratio_top) (B.room.mono (by decide)) (d_var 1)) (d_prop (propOk c.p_Ratio_bottom) (B.room.mono (by decide)) (d_var 0))))), pure_is_less ds Q EW hf⟩
/-! Ratio.__init__ -/
theorem sc_Ratio___init__ : FnScope ["self", "top", "bottom", "shared"] ["self", "top", "bottom"] (defScope s_Ratio___init__) := ⟨rfl, rfl, rfl, by decide +kernel, rfl, by decide +kernel, by decide +kernel⟩
theorem ok_Ratio___init___2 (c : Fx P w K mg base T) : FnR P w K mg base (L2.CX P w) 4 (He.ma K (He.ga K "Ratio") "__init__") (spI T K "Ratio" f_Ratio___init___2) := by
  obtain ⟨fd, Fd⟩ := c.d_Ratio___init__
  have S := sc_Ratio___init__
  obtain ⟨ds0, rv, hb⟩ := Fd.binds1 (ps := ["self", "top", "bottom"]) 3 1 (by simp) rfl fun _ _ _ _ _ _ _ us its hl hi => match us, its, hl, hi with | [_, _, _], [_], _, _ => ⟨_, rfl, rfl⟩
  refine initD (dds := []) (f := f_Ratio___init__) Fd S hb rv (fun _ _ _ => .nil) len_Ratio___init__ c.hT ?_
  intro cdv A outer s H E g EW ds x Q hg B hf
  subst hg
  exact ⟨ws_Ratio___init__ EW, ds_cons (ds_if (dt_not (dt_val (d_fn (ok_is_integer c) (B.room.mono (by decide)) c.g_is_integer c.k_is_integer B.pass (da_cons (d_var 1) (da_nil))))) (ds_one (ds_raise rfl (c.x_InvalidNumber _ rfl rfl rfl rfl rfl) exr_InvalidNumber (by decide) (B.room.mono (by decide)) c.g_InvalidNumber B.take B.hT (da_cons (d_var 1) (da_nil)))) (ds_nil)) (ds_cons (ds_if ((dw_or (dt_not (dt_val (d_fn (ok_is_integer c) (B.room.mono (by decide)) c.g_is_integer c.k_is_integer B.pass (da_cons (d_var 2) (da_nil))))) (dw_or1 (dt_cmp (od_eqI (by have := B.room.un; show _ < _; omega)) (d_var 2) (d_int)))).pt) (ds_one (ds_raise rfl (c.x_InvalidNumber _ rfl rfl rfl rfl rfl) exr_InvalidNumber (by decide) (B.room.mono (by decide)) c.g_InvalidNumber B.take B.hT (da_cons (d_var 2) (da_nil)))) (ds_nil)) (ds_cons (ds_set S.nd (d_if (dt_cmp od_gt (d_var 2) (d_int)) (d_fn (ok_divisor_of c) (B.room.mono (by decide)) c.g_divisor_of c.k_divisor_of B.pass (da_cons (d_var 1) (da_cons (d_var 2) (da_nil)))) (d_un und_neg (d_fn (ok_divisor_of c) (B.room.mono (by decide)) c.g_divisor_of c.k_divisor_of B.pass (da_cons (d_var 1) (da_cons (d_var 2) (da_nil))))))) (ds_cons (ds_setf B.hT c.c_Ratio c.no_Ratio_own_top (d_op od_div (d_var 1) (d_var 3))) (ds_one (ds_setf B.hT c.c_Ratio c.no_Ratio_own_bottom (d_op od_div (d_var 2) (d_var 3))))))), pure_Ratio___init__ ds x Q EW hf⟩
theorem ok_Ratio___init___1 (c : Fx P w K mg base T) : FnR P w K mg base (L2.CX P w) 4 (He.ma K (He.ga K "Ratio") "__init__") (spI T K "Ratio" f_Ratio___init___1) := by
  obtain ⟨fd, Fd⟩ := c.d_Ratio___init__
  have S := sc_Ratio___init__
  obtain ⟨ds0, rv, hb⟩ := Fd.binds1 (ps := ["self", "top", "bottom"]) 2 0 (by simp) rfl fun _ _ _ _ _ _ _ us its hl hi => match us, its, hl, hi with | [_, _], [_], _, _ => ⟨_, rfl, rfl⟩
  refine initD (dds := [.int 1]) (f := f_Ratio___init__) Fd S hb rv (fun _ _ _ => .cons (.int _) (.nil)) len_Ratio___init__ c.hT ?_
  intro cdv A outer s H E g EW ds x Q hg B hf
  subst hg
  exact ⟨ws_Ratio___init__ EW, ds_cons (ds_if (dt_not (dt_val (d_fn (ok_is_integer c) (B.room.mono (by decide)) c.g_is_integer c.k_is_integer B.pass (da_cons (d_var 1) (da_nil))))) (ds_one (ds_raise rfl (c.x_InvalidNumber _ rfl rfl rfl rfl rfl) exr_InvalidNumber (by decide) (B.room.mono (by decide)) c.g_InvalidNumber B.take B.hT (da_cons (d_var 1) (da_nil)))) (ds_nil)) (ds_cons (ds_if ((dw_or (dt_not (dt_val (d_fn (ok_is_integer c) (B.room.mono (by decide)) c.g_is_integer c.k_is_integer B.pass (da_cons (d_var 2) (da_nil))))) (dw_or1 (dt_cmp (od_eqI (by have := B.room.un; show _ < _; omega)) (d_var 2) (d_int)))).pt) (ds_one (ds_raise rfl (c.x_InvalidNumber _ rfl rfl rfl rfl rfl) exr_InvalidNumber (by decide) (B.room.mono (by decide)) c.g_InvalidNumber B.take B.hT (da_cons (d_var 2) (da_nil)))) (ds_nil)) (ds_cons (ds_set S.nd (d_if (dt_cmp od_gt (d_var 2) (d_int)) (d_fn (ok_divisor_of c) (B.room.mono (by decide)) c.g_divisor_of c.k_divisor_of B.pass (da_cons (d_var 1) (da_cons (d_var 2) (da_nil)))) (d_un und_neg (d_fn (ok_divisor_of c) (B.room.mono (by decide)) c.g_divisor_of c.k_divisor_of B.pass (da_cons (d_var 1) (da_cons (d_var 2) (da_nil))))))) (ds_cons (ds_setf B.hT c.c_Ratio c.no_Ratio_own_top (d_op od_div (d_var 1) (d_var 3))) (ds_one (ds_setf B.hT c.c_Ratio c.no_Ratio_own_bottom (d_op od_div (d_var 2) (d_var 3))))))), pure_Ratio___init__ ds x Q EW hf⟩
/-! Ratio.of -/
theorem sc_Ratio_of : FnScope ["cls", "number"] ["cls", "number"] (defScope s_Ratio_of) := ⟨rfl, rfl, rfl, by decide +kernel, rfl, by decide +kernel, by decide +kernel⟩
theorem ok_Ratio_of (c : Fx P w K mg base T) : FnR P w K mg base (L2.CX P w) 6 (He5.wf K (He.ga K "Ratio") "classmethod" "of") (spD T K f_Ratio_of) := by
  obtain ⟨fd, Fd⟩ := c.d_Ratio_of
  have S := sc_Ratio_of
  refine fnR_of Fd S (Fd.bindsN fun _ _ _ _ _ _ us hl => match us, hl with | [_, _], _ => rfl) len_Ratio_of c.hT ?_
  intro cdv A outer s H E g EW ds Q hg hgd B hf
  subst hg
  exact ⟨ws_Ratio_of EW, ds_cons (ds_expr (d_fn (ok_require_number c) (B.room.mono (by decide)) c.g_require_number c.k_require_number B.pass (da_cons (d_var 1) (da_nil)))) (ds_one (ds_ret (d_if (dt_val (d_fn (ok_is_integer c) (B.room.mono (by decide)) c.g_is_integer c.k_is_integer B.pass (da_cons (d_var 1) (da_nil)))) (d_mk B.hT c.mk_Ratio (ok_Ratio___init___1 c) (B.room.mono (by decide)) c.g_Ratio B.pass (da_cons (d_var 1) (da_nil))) (d_var 1)))), pure_Ratio_of ds Q EW hf⟩
/-! extreme_of -/
theorem sc_extreme_of : FnScope ["numbers", "is_least", "found", "number", "ratio"] ["numbers", "is_least"] (defScope s_extreme_of) := ⟨rfl, rfl, rfl, by decide +kernel, rfl, by decide +kernel, by decide +kernel⟩
theorem ok_extreme_of (c : Fx P w K mg base T) : FnR P w K mg base (L2.CX P w) 7 (He.ga K "extreme_of") (spD T K f_extreme_of) := by
  obtain ⟨fd, Fd⟩ := c.d_extreme_of
  have S := sc_extreme_of
  refine fnR_of Fd S (Fd.bindsN fun _ _ _ _ _ _ us hl => match us, hl with | [_, _], _ => rfl) len_extreme_of c.hT ?_
  intro cdv A outer s H E g EW ds Q hg hgd B hf
  subst hg
  exact ⟨ws_extreme_of EW, ds_cons (ds_if (dt_cmp (od_eqI (by have := B.room.un; show _ < _; omega)) (d_b (cd_len) c.n_len rfl (da_cons (d_var 0) (da_nil))) (d_int)) (ds_one (ds_raise rfl (c.x_InvalidNumber _ rfl rfl rfl rfl rfl) exr_InvalidNumber (by decide) (B.room.mono (by decide)) c.g_InvalidNumber B.take B.hT (da_cons (d_non) (da_nil)))) (ds_nil)) (ds_cons (ds_set S.nd (d_cmeth (c := "Ratio") c.cr_Ratio c.cm_Ratio_of (ok_Ratio_of c) (B.room.mono (by decide)) B.pass (d_cls c.g_Ratio) (da_cons (d_ix (d_var 0) (d_int)) (da_nil)))) (ds_cons (ds_for (passes_of rfl) rfl (di_tup (d_var 0)) (fun gh => dg_name S.nd) (fun gh => have B := B.gh gh; ds_cons (ds_set S.nd (d_cmeth (c := "Ratio") c.cr_Ratio c.cm_Ratio_of (ok_Ratio_of c) (B.room.mono (by decide)) B.pass (d_cls c.g_Ratio) (da_cons (d_var 3) (da_nil)))) (ds_one (ds_if (dt_if (dt_val (d_var 1)) (dt_val (d_fn (ok_is_less c) (B.room.mono (by decide)) c.g_is_less c.k_is_less B.pass (da_cons (d_var 4) (da_cons (d_var 2) (da_nil))))) (dt_val (d_fn (ok_is_less c) (B.room.mono (by decide)) c.g_is_less c.k_is_less B.pass (da_cons (d_var 2) (da_cons (d_var 4) (da_nil)))))) (ds_one (ds_set S.nd (d_var 4))) (ds_nil))))) (ds_one (ds_ret (d_var 2))))), pure_extreme_of ds Q EW hf⟩
/-! Ratio.least -/
theorem sc_Ratio_least : FnScope ["cls", "numbers"] ["cls", "numbers"] (defScope s_Ratio_least) := ⟨rfl, rfl, rfl, by decide +kernel, rfl, by decide +kernel, by decide +kernel⟩
theorem ok_Ratio_least (c : Fx P w K mg base T) : FnR P w K mg base (L2.CX P w) 8 (He5.wf K (He.ga K "Ratio") "classmethod" "least") (spD T K (starF 1 f_Ratio_least)) := by
  obtain ⟨fd, Fd⟩ := c.d_Ratio_least
  have S := sc_Ratio_least
  refine fnR_star (ps := ["cls"]) Fd S (bindStar Fd fun _ _ _ _ _ _ us rest hl => match us, rest, hl with | [_], [], _ => rfl | [_], _ :: _, _ => rfl) c.hT ?_
  intro cdv A outer s H E g EW ds Q hg hgd B hf
  subst hg
  exact ⟨ws_Ratio_least EW, ds_one (ds_ret (d_fn (ok_extreme_of c) (B.room.mono (by decide)) c.g_extreme_of c.k_extreme_of B.pass (da_cons (d_var 1) (da_cons (d_bl) (da_nil))))), pure_Ratio_least ds Q EW hf⟩
/-! Ratio.greatest -/
theorem sc_Ratio_greatest : FnScope ["cls", "numbers"] ["cls", "numbers"] (defScope s_Ratio_greatest) := ⟨rfl, rfl, rfl, by decide +kernel, rfl, by decide +kernel, by decide +kernel⟩
theorem ok_Ratio_greatest (c : Fx P w K mg base T) : FnR P w K mg base (L2.CX P w) 8 (He5.wf K (He.ga K "Ratio") "classmethod" "greatest") (spD T K (starF 1 f_Ratio_greatest)) := by
  obtain ⟨fd, Fd⟩ := c.d_Ratio_greatest
  have S := sc_Ratio_greatest
  refine fnR_star (ps := ["cls"]) Fd S (bindStar Fd fun _ _ _ _ _ _ us rest hl => match us, rest, hl with | [_], [], _ => rfl | [_], _ :: _, _ => rfl) c.hT ?_
  intro cdv A outer s H E g EW ds Q hg hgd B hf
  subst hg
  exact ⟨ws_Ratio_greatest EW, ds_one (ds_ret (d_fn (ok_extreme_of c) (B.room.mono (by decide)) c.g_extreme_of c.k_extreme_of B.pass (da_cons (d_var 1) (da_cons (d_bl) (da_nil))))), pure_Ratio_greatest ds Q EW hf⟩
/-! Ratio.__add__ -/
theorem sc_Ratio___add__ : FnScope ["self", "other", "beside", "top"] ["self", "other"] (defScope s_Ratio___add__) := ⟨rfl, rfl, rfl, by decide +kernel, rfl, by decide +kernel, by decide +kernel⟩
theorem ok_Ratio___add__ (c : Fx P w K mg base T) : FnR P w K mg base (L2.CX P w) 7 (He.ma K (He.ga K "Ratio") "__add__") (spD T K f_Ratio___add__) := by
  obtain ⟨fd, Fd⟩ := c.d_Ratio___add__
  have S := sc_Ratio___add__
  refine fnR_of Fd S (Fd.bindsN fun _ _ _ _ _ _ us hl => match us, hl with | [_, _], _ => rfl) len_Ratio___add__ c.hT ?_
  intro cdv A outer s H E g EW ds Q hg hgd B hf
  subst hg
  exact ⟨ws_Ratio___add__ EW, ds_cons (ds_set S.nd (d_cmeth (c := "Ratio") c.cr_Ratio c.cm_Ratio_of (ok_Ratio_of c) (B.room.mono (by decide)) B.pass (d_cls c.g_Ratio) (da_cons (d_var 1) (da_nil)))) (ds_cons (ds_set S.nd (d_op od_add (d_op od_mul (d_fld (fldOk c.c_Ratio c.no_Ratio_own_top) (d_var 0)) (d_fld (fldOk c.c_Ratio c.no_Ratio_own_bottom) (d_var 2))) (d_op od_mul (d_fld (fldOk c.c_Ratio c.no_Ratio_own_top) (d_var 2)) (d_fld (fldOk c.c_Ratio c.no_Ratio_own_bottom) (d_var 0))))) (ds_one (ds_ret (d_mk B.hT c.mk_Ratio (ok_Ratio___init___2 c) (B.room.mono (by decide)) c.g_Ratio B.pass (da_cons (d_var 3) (da_cons (d_op od_mul (d_fld (fldOk c.c_Ratio c.no_Ratio_own_bottom) (d_var 0)) (d_fld (fldOk c.c_Ratio c.no_Ratio_own_bottom) (d_var 2))) (da_nil))))))), pure_Ratio___add__ ds Q EW hf⟩
/-! Ratio.__mul__ -/
theorem sc_Ratio___mul__ : FnScope ["self", "other", "beside"] ["self", "other"] (defScope s_Ratio___mul__) := ⟨rfl, rfl, rfl, by decide +kernel, rfl, by decide +kernel, by decide +kernel⟩
theorem ok_Ratio___mul__ (c : Fx P w K mg base T) : FnR P w K mg base (L2.CX P w) 7 (He.ma K (He.ga K "Ratio") "__mul__") (spD T K f_Ratio___mul__) := by
  obtain ⟨fd, Fd⟩ := c.d_Ratio___mul__
  have S := sc_Ratio___mul__
  refine fnR_of Fd S (Fd.bindsN fun _ _ _ _ _ _ us hl => match us, hl with | [_, _], _ => rfl) len_Ratio___mul__ c.hT ?_
  intro cdv A outer s H E g EW ds Q hg hgd B hf
  subst hg
  exact ⟨ws_Ratio___mul__ EW, ds_cons (ds_set S.nd (d_cmeth (c := "Ratio") c.cr_Ratio c.cm_Ratio_of (ok_Ratio_of c) (B.room.mono (by decide)) B.pass (d_cls c.g_Ratio) (da_cons (d_var 1) (da_nil)))) (ds_one (ds_ret (d_mk B.hT c.mk_Ratio (ok_Ratio___init___2 c) (B.room.mono (by decide)) c.g_Ratio B.pass (da_cons (d_op od_mul (d_fld (fldOk c.c_Ratio c.no_Ratio_own_top) (d_var 0)) (d_fld (fldOk c.c_Ratio c.no_Ratio_own_top) (d_var 2))) (da_cons (d_op od_mul (d_fld (fldOk c.c_Ratio c.no_Ratio_own_bottom) (d_var 0)) (d_fld (fldOk c.c_Ratio c.no_Ratio_own_bottom) (d_var 2))) (da_nil)))))), pure_Ratio___mul__ ds Q EW hf⟩
/-! Ratio.over -/
theorem sc_Ratio_over : FnScope ["self", "other", "beside"] ["self", "other"] (defScope s_Ratio_over) := ⟨rfl, rfl, rfl, by decide +kernel, rfl, by decide +kernel, by decide +kernel⟩
theorem ok_Ratio_over (c : Fx P w K mg base T) : FnR P w K mg base (L2.CX P w) 7 (He.ma K (He.ga K "Ratio") "over") (spD T K f_Ratio_over) := by
  obtain ⟨fd, Fd⟩ := c.d_Ratio_over
  have S := sc_Ratio_over
  refine fnR_of Fd S (Fd.bindsN fun _ _ _ _ _ _ us hl => match us, hl with | [_, _], _ => rfl) len_Ratio_over c.hT ?_
  intro cdv A outer s H E g EW ds Q hg hgd B hf
  subst hg
  exact ⟨ws_Ratio_over EW, ds_cons (ds_set S.nd (d_cmeth (c := "Ratio") c.cr_Ratio c.cm_Ratio_of (ok_Ratio_of c) (B.room.mono (by decide)) B.pass (d_cls c.g_Ratio) (da_cons (d_var 1) (da_nil)))) (ds_cons (ds_if (dt_cmp (od_eqI (by have := B.room.un; show _ < _; omega)) (d_fld (fldOk c.c_Ratio c.no_Ratio_own_top) (d_var 2)) (d_int)) (ds_one (ds_dead)) (ds_nil)) (ds_one (ds_ret (d_mk B.hT c.mk_Ratio (ok_Ratio___init___2 c) (B.room.mono (by decide)) c.g_Ratio B.pass (da_cons (d_op od_mul (d_fld (fldOk c.c_Ratio c.no_Ratio_own_top) (d_var 0)) (d_fld (fldOk c.c_Ratio c.no_Ratio_own_bottom) (d_var 2))) (da_cons (d_op od_mul (d_fld (fldOk c.c_Ratio c.no_Ratio_own_bottom) (d_var 0)) (d_fld (fldOk c.c_Ratio c.no_Ratio_own_top) (d_var 2))) (da_nil))))))), pure_Ratio_over ds Q EW hf⟩
/-! Ratio.__eq__ -/
theorem sc_Ratio___eq__ : FnScope ["self", "other"] ["self", "other"] (defScope s_Ratio___eq__) := ⟨rfl, rfl, rfl, by decide +kernel, rfl, by decide +kernel, by decide +kernel⟩
theorem ok_Ratio___eq__ (c : Fx P w K mg base T) : FnR P w K mg base (L2.CX P w) 2 (He.ma K (He.ga K "Ratio") "__eq__") (spD T K f_Ratio___eq__) := by
  obtain ⟨fd, Fd⟩ := c.d_Ratio___eq__
  have S := sc_Ratio___eq__
  refine fnR_of Fd S (Fd.bindsN fun _ _ _ _ _ _ us hl => match us, hl with | [_, _], _ => rfl) len_Ratio___eq__ c.hT ?_
  intro cdv A outer s H E g EW ds Q hg hgd B hf
  subst hg
  exact ⟨ws_Ratio___eq__ EW, ds_one (ds_ret (d_and (d_b (cd_isi c.isi) c.n_isinstance rfl (da_cons (d_var 1) (da_cons (d_cls c.g_Ratio) (da_nil)))) (d_and (d_cmp (od_eqI (by have := B.room.un; show _ < _; omega)) (d_fld (fldOk c.c_Ratio c.no_Ratio_own_top) (d_var 0)) (d_fld (fldOk c.c_Ratio c.no_Ratio_own_top) (d_var 1))) (d_one (d_cmp (od_eqI (by have := B.room.un; show _ < _; omega)) (d_fld (fldOk c.c_Ratio c.no_Ratio_own_bottom) (d_var 0)) (d_fld (fldOk c.c_Ratio c.no_Ratio_own_bottom) (d_var 1))))))), pure_Ratio___eq__ ds Q EW hf⟩
/-! require_move -/
theorem sc_require_move : FnScope ["value"] ["value"] (defScope s_require_move) := ⟨rfl, rfl, rfl, by decide +kernel, rfl, by decide +kernel, by decide +kernel⟩
theorem ok_require_move (c : Fx P w K mg base T) : FnR P w K mg base (L2.CX P w) 4 (He.ga K "require_move") (spD T K f_require_move) := by
  obtain ⟨fd, Fd⟩ := c.d_require_move
  have S := sc_require_move
  refine fnR_of Fd S (Fd.bindsN fun _ _ _ _ _ _ us hl => match us, hl with | [_], _ => rfl) len_require_move c.hT ?_
  intro cdv A outer s H E g EW ds Q hg hgd B hf
  subst hg
  exact ⟨ws_require_move EW, ds_one (ds_if (dt_not (dt_val (d_b (cd_isi c.isi) c.n_isinstance rfl (da_cons (d_var 0) (da_cons (d_cls c.g_Move) (da_nil)))))) (ds_one (ds_raise rfl (c.x_InvalidMove _ rfl rfl rfl rfl rfl) exr_InvalidMove (by decide) (B.room.mono (by decide)) c.g_InvalidMove B.take B.hT (da_cons (d_str) (da_nil)))) (ds_nil)), pure_require_move ds Q EW hf⟩
/-! Move.__init__ -/
theorem sc_Move___init__ : FnScope ["self", "divisor", "plus", "low", "high", "part", "number"] ["self", "divisor", "plus", "low", "high"] (defScope s_Move___init__) := ⟨rfl, rfl, rfl, by decide +kernel, rfl, by decide +kernel, by decide +kernel⟩
theorem ok_Move___init__ (c : Fx P w K mg base T) : FnR P w K mg base (L2.CX P w) 7 (He.ma K (He.ga K "Move") "__init__") (spI T K "Move" f_Move___init__) := by
  obtain ⟨fd, Fd⟩ := c.d_Move___init__
  have S := sc_Move___init__
  refine FnR.imp (initD (dds := []) (dv0 := []) (f := f_Move___init__) Fd S (Fd.bindsN fun _ _ _ _ _ _ us hl => match us, hl with | [_, _, _, _, _], _ => rfl) .nil (fun _ _ _ => .nil) len_Move___init__ c.hT ?_) fun vs H Q E h => by simpa only [List.append_nil] using h
  intro cdv A outer s H E g EW ds x Q hg B hf
  subst hg
  exact ⟨ws_Move___init__ EW, ds_cons (ds_if ((dw_or (dt_not (dt_val (d_fn (ok_is_integer c) (B.room.mono (by decide)) c.g_is_integer c.k_is_integer B.pass (da_cons (d_var 1) (da_nil))))) (dw_or1 (dt_cmp od_lt (d_var 1) (d_int)))).pt) (ds_one (ds_raise rfl (c.x_InvalidMove _ rfl rfl rfl rfl rfl) exr_InvalidMove (by decide) (B.room.mono (by decide)) c.g_InvalidMove B.take B.hT (da_cons (d_str) (da_nil)))) (ds_nil)) (ds_cons (ds_for (passes_of rfl) rfl (di_tup (d_tup B.hT (da_cons (d_tup B.hT (da_cons (d_str) (da_cons (d_var 2) (da_nil)))) (da_cons (d_tup B.hT (da_cons (d_str) (da_cons (d_var 3) (da_nil)))) (da_cons (d_tup B.hT (da_cons (d_str) (da_cons (d_var 4) (da_nil)))) (da_nil)))))) (fun gh => dg_tup rfl (dgs_cons S.nd (dgs_cons S.nd dgs_nil))) (fun gh => have B := B.gh gh; ds_one (ds_if (dt_not (dt_val (d_fn (ok_is_number c) (B.room.mono (by decide)) c.g_is_number c.k_is_number B.pass (da_cons (d_var 6) (da_nil))))) (ds_one (ds_raise rfl (c.x_InvalidMove _ rfl rfl rfl rfl rfl) exr_InvalidMove (by decide) (B.room.mono (by decide)) c.g_InvalidMove B.take B.hT (da_cons (d_var 5) (da_nil)))) (ds_nil)))) (ds_cons (ds_if (dt_val (d_fn (ok_is_less c) (B.room.mono (by decide)) c.g_is_less c.k_is_less B.pass (da_cons (d_cmeth (c := "Ratio") c.cr_Ratio c.cm_Ratio_of (ok_Ratio_of c) (B.room.mono (by decide)) B.pass (d_cls c.g_Ratio) (da_cons (d_var 4) (da_nil))) (da_cons (d_cmeth (c := "Ratio") c.cr_Ratio c.cm_Ratio_of (ok_Ratio_of c) (B.room.mono (by decide)) B.pass (d_cls c.g_Ratio) (da_cons (d_var 3) (da_nil))) (da_nil))))) (ds_one (ds_raise rfl (c.x_InvalidMove _ rfl rfl rfl rfl rfl) exr_InvalidMove (by decide) (B.room.mono (by decide)) c.g_InvalidMove B.take B.hT (da_cons (d_str) (da_nil)))) (ds_nil)) (ds_cons (ds_setf B.hT c.c_Move c.no_Move_own_divisor (d_var 1)) (ds_cons (ds_setf B.hT c.c_Move c.no_Move_own_plus (d_cmeth (c := "Ratio") c.cr_Ratio c.cm_Ratio_of (ok_Ratio_of c) (B.room.mono (by decide)) B.pass (d_cls c.g_Ratio) (da_cons (d_var 2) (da_nil)))) (ds_cons (ds_setf B.hT c.c_Move c.no_Move_own_low (d_cmeth (c := "Ratio") c.cr_Ratio c.cm_Ratio_of (ok_Ratio_of c) (B.room.mono (by decide)) B.pass (d_cls c.g_Ratio) (da_cons (d_var 3) (da_nil)))) (ds_one (ds_setf B.hT c.c_Move c.no_Move_own_high (d_cmeth (c := "Ratio") c.cr_Ratio c.cm_Ratio_of (ok_Ratio_of c) (B.room.mono (by decide)) B.pass (d_cls c.g_Ratio) (da_cons (d_var 4) (da_nil)))))))))), pure_Move___init__ ds x Q EW hf⟩
/-! Move.free -/
theorem sc_Move_free : FnScope ["self", "number"] ["self", "number"] (defScope s_Move_free) := ⟨rfl, rfl, rfl, by decide +kernel, rfl, by decide +kernel, by decide +kernel⟩
theorem ok_Move_free (c : Fx P w K mg base T) : FnR P w K mg base (L2.CX P w) 8 (He.ma K (He.ga K "Move") "free") (spD T K f_Move_free) := by
  obtain ⟨fd, Fd⟩ := c.d_Move_free
  have S := sc_Move_free
  refine fnR_of Fd S (Fd.bindsN fun _ _ _ _ _ _ us hl => match us, hl with | [_, _], _ => rfl) len_Move_free c.hT ?_
  intro cdv A outer s H E g EW ds Q hg hgd B hf
  subst hg
  exact ⟨ws_Move_free EW, ds_one (ds_ret (d_meth (c := "Ratio") c.c_Ratio c.m_Ratio_over (ok_Ratio_over c) (B.room.mono (by decide)) B.pass (d_own2 (op := .Add) c.sf_Ratio c.ow_Ratio___add__ (ok_Ratio___add__ c) (B.room.mono (by decide)) B.pass (d_cmeth (c := "Ratio") c.cr_Ratio c.cm_Ratio_of (ok_Ratio_of c) (B.room.mono (by decide)) B.pass (d_cls c.g_Ratio) (da_cons (d_var 1) (da_nil))) (d_fld (fldOk c.c_Move c.no_Move_own_plus) (d_var 0))) (da_cons (d_fld (fldOk c.c_Move c.no_Move_own_divisor) (d_var 0)) (da_nil)))), pure_Move_free ds Q EW hf⟩
/-! Move.held -/
theorem sc_Move_held : FnScope ["self", "number"] ["self", "number"] (defScope s_Move_held) := ⟨rfl, rfl, rfl, by decide +kernel, rfl, by decide +kernel, by decide +kernel⟩
theorem ok_Move_held (c : Fx P w K mg base T) : FnR P w K mg base (L2.CX P w) 9 (He.ma K (He.ga K "Move") "held") (spD T K f_Move_held) := by
  obtain ⟨fd, Fd⟩ := c.d_Move_held
  have S := sc_Move_held
  refine fnR_of Fd S (Fd.bindsN fun _ _ _ _ _ _ us hl => match us, hl with | [_, _], _ => rfl) len_Move_held c.hT ?_
  intro cdv A outer s H E g EW ds Q hg hgd B hf
  subst hg
  exact ⟨ws_Move_held EW, ds_one (ds_ret (d_cmeth (c := "Ratio") c.cr_Ratio c.cm_Ratio_least (ok_Ratio_least c) (B.room.mono (by decide)) B.pass (d_cls c.g_Ratio) (da_cons (d_fld (fldOk c.c_Move c.no_Move_own_high) (d_var 0)) (da_cons (d_cmeth (c := "Ratio") c.cr_Ratio c.cm_Ratio_greatest (ok_Ratio_greatest c) (B.room.mono (by decide)) B.pass (d_cls c.g_Ratio) (da_cons (d_fld (fldOk c.c_Move c.no_Move_own_low) (d_var 0)) (da_cons (d_var 1) (da_nil)))) (da_nil))))), pure_Move_held ds Q EW hf⟩
/-! Move.at -/
theorem sc_Move_at : FnScope ["self", "number"] ["self", "number"] (defScope s_Move_at) := ⟨rfl, rfl, rfl, by decide +kernel, rfl, by decide +kernel, by decide +kernel⟩
theorem ok_Move_at (c : Fx P w K mg base T) : FnR P w K mg base (L2.CX P w) 10 (He.ma K (He.ga K "Move") "at") (spD T K f_Move_at) := by
  obtain ⟨fd, Fd⟩ := c.d_Move_at
  have S := sc_Move_at
  refine fnR_of Fd S (Fd.bindsN fun _ _ _ _ _ _ us hl => match us, hl with | [_, _], _ => rfl) len_Move_at c.hT ?_
  intro cdv A outer s H E g EW ds Q hg hgd B hf
  subst hg
  exact ⟨ws_Move_at EW, ds_cons (ds_expr (d_fn (ok_require_number c) (B.room.mono (by decide)) c.g_require_number c.k_require_number B.pass (da_cons (d_var 1) (da_nil)))) (ds_one (ds_ret (d_meth (c := "Move") c.c_Move c.m_Move_held (ok_Move_held c) (B.room.mono (by decide)) B.pass (d_var 0) (da_cons (d_meth (c := "Move") c.c_Move c.m_Move_free (ok_Move_free c) (B.room.mono (by decide)) B.pass (d_var 0) (da_cons (d_var 1) (da_nil))) (da_nil))))), pure_Move_at ds Q EW hf⟩
/-! Move.then -/
theorem sc_Move_then : FnScope ["self", "other", "plus"] ["self", "other"] (defScope s_Move_then) := ⟨rfl, rfl, rfl, by decide +kernel, rfl, by decide +kernel, by decide +kernel⟩
theorem ok_Move_then (c : Fx P w K mg base T) : FnR P w K mg base (L2.CX P w) 11 (He.ma K (He.ga K "Move") "then") (spD T K f_Move_then) := by
  obtain ⟨fd, Fd⟩ := c.d_Move_then
  have S := sc_Move_then
  refine fnR_of Fd S (Fd.bindsN fun _ _ _ _ _ _ us hl => match us, hl with | [_, _], _ => rfl) len_Move_then c.hT ?_
  intro cdv A outer s H E g EW ds Q hg hgd B hf
  subst hg
  exact ⟨ws_Move_then EW, ds_cons (ds_expr (d_fn (ok_require_move c) (B.room.mono (by decide)) c.g_require_move c.k_require_move B.pass (da_cons (d_var 1) (da_nil)))) (ds_cons (ds_set S.nd (d_own2 (op := .Add) c.sf_Ratio c.ow_Ratio___add__ (ok_Ratio___add__ c) (B.room.mono (by decide)) B.pass (d_fld (fldOk c.c_Move c.no_Move_own_plus) (d_var 0)) (d_ownI (op := .Mult) c.sf_Ratio c.ow_Ratio___mul__ c.oi_Ratio___mul__ (ok_Ratio___mul__ c) (B.room.mono (by decide)) B.pass (d_prop (propOk c.p_Move_plus) (B.room.mono (by decide)) (d_var 1)) (d_fld (fldOk c.c_Move c.no_Move_own_divisor) (d_var 0))))) (ds_one (ds_ret (d_mk B.hT c.mk_Move (ok_Move___init__ c) (B.room.mono (by decide)) c.g_Move B.pass (da_cons (d_op od_mul (d_fld (fldOk c.c_Move c.no_Move_own_divisor) (d_var 0)) (d_prop (propOk c.p_Move_divisor) (B.room.mono (by decide)) (d_var 1))) (da_cons (d_var 2) (da_cons (d_meth (c := "Move") c.c_Move c.m_Move_at (ok_Move_at c) (B.room.mono (by decide)) B.pass (d_var 1) (da_cons (d_fld (fldOk c.c_Move c.no_Move_own_low) (d_var 0)) (da_nil))) (da_cons (d_meth (c := "Move") c.c_Move c.m_Move_at (ok_Move_at c) (B.room.mono (by decide)) B.pass (d_var 1) (da_cons (d_fld (fldOk c.c_Move c.no_Move_own_high) (d_var 0)) (da_nil))) (da_nil))))))))), pure_Move_then ds Q EW hf⟩
/-! Move.added -/
theorem sc_Move_added : FnScope ["self", "times", "more", "low", "high", "end"] ["self", "times"] (defScope s_Move_added) := ⟨rfl, rfl, rfl, by decide +kernel, rfl, by decide +kernel, by decide +kernel⟩
theorem ok_Move_added (c : Fx P w K mg base T) : FnR P w K mg base (L2.CX P w) 10 (He.ma K (He.ga K "Move") "added") (spD T K f_Move_added) := by
  obtain ⟨fd, Fd⟩ := c.d_Move_added
  have S := sc_Move_added
  refine fnR_of Fd S (Fd.bindsN fun _ _ _ _ _ _ us hl => match us, hl with | [_, _], _ => rfl) len_Move_added c.hT ?_
  intro cdv A outer s H E g EW ds Q hg hgd B hf
  subst hg
  exact ⟨ws_Move_added EW, ds_cons (ds_set S.nd (d_ownI (op := .Mult) c.sf_Ratio c.ow_Ratio___mul__ c.oi_Ratio___mul__ (ok_Ratio___mul__ c) (B.room.mono (by decide)) B.pass (d_fld (fldOk c.c_Move c.no_Move_own_plus) (d_var 0)) (d_op od_sub (d_var 1) (d_int)))) (ds_cons (ds_asg (d_lc (tgt := (.one 5)) (own := [("end", 5)]) B.hT rfl S.nd (di_tup (d_tup B.hT (da_cons (d_fld (fldOk c.c_Move c.no_Move_own_low) (d_var 0)) (da_cons (d_fld (fldOk c.c_Move c.no_Move_own_high) (d_var 0)) (da_nil))))) (L2.blkOk_by (N := ["self", "times", "more", "low", "high", "end"]) (sc := defScope s_Move_added) (own := [("end", 5)]) (by decide +kernel)) (fun s H C cl fp => pg_name S.nd rfl (.inl rfl)) (fun s H C cl fp => dts_nil) (fun s H C cl fp gh => have B := B.blk gh s H _ _ fp; d_meth (c := "Move") c.c_Move c.m_Move_held (ok_Move_held c) (B.room.mono (by decide)) B.pass (d_var 0) (da_cons (d_own2 (op := .Add) c.sf_Ratio c.ow_Ratio___add__ (ok_Ratio___add__ c) (B.room.mono (by decide)) B.pass (d_var 5) (d_var 2)) (da_nil)))) (dg_lst rfl (dgs_cons S.nd (dgs_cons S.nd dgs_nil)))) (ds_one (ds_ret (d_mk B.hT c.mk_Move (ok_Move___init__ c) (B.room.mono (by decide)) c.g_Move B.pass (da_cons (d_int) (da_cons (d_ownI (op := .Mult) c.sf_Ratio c.ow_Ratio___mul__ c.oi_Ratio___mul__ (ok_Ratio___mul__ c) (B.room.mono (by decide)) B.pass (d_fld (fldOk c.c_Move c.no_Move_own_plus) (d_var 0)) (d_var 1)) (da_cons (d_var 3) (da_cons (d_var 4) (da_nil))))))))), pure_Move_added ds Q EW hf⟩
/-! Move.done -/
theorem sc_Move_done : FnScope ["self", "times", "found", "turn"] ["self", "times"] (defScope s_Move_done) := ⟨rfl, rfl, rfl, by decide +kernel, rfl, by decide +kernel, by decide +kernel⟩
theorem ok_Move_done (c : Fx P w K mg base T) : FnR P w K mg base (L2.CX P w) 12 (He.ma K (He.ga K "Move") "done") (spD T K f_Move_done) := by
  obtain ⟨fd, Fd⟩ := c.d_Move_done
  have S := sc_Move_done
  refine fnR_of Fd S (Fd.bindsN fun _ _ _ _ _ _ us hl => match us, hl with | [_, _], _ => rfl) len_Move_done c.hT ?_
  intro cdv A outer s H E g EW ds Q hg hgd B hf
  subst hg
  exact ⟨ws_Move_done EW, ds_cons (ds_if ((dw_or (dt_not (dt_val (d_fn (ok_is_integer c) (B.room.mono (by decide)) c.g_is_integer c.k_is_integer B.pass (da_cons (d_var 1) (da_nil))))) (dw_or1 (dt_cmp od_lt (d_var 1) (d_int)))).pt) (ds_one (ds_raise rfl (c.x_InvalidCount _ rfl rfl rfl rfl rfl) exr_InvalidCount (by decide) (B.room.mono (by decide)) c.g_InvalidCount B.take B.hT (da_cons (d_var 1) (da_nil)))) (ds_nil)) (ds_cons (ds_if (dt_cmp (od_eqI (by have := B.room.un; show _ < _; omega)) (d_fld (fldOk c.c_Move c.no_Move_own_divisor) (d_var 0)) (d_int)) (ds_one (ds_ret (d_meth (c := "Move") c.c_Move c.m_Move_added (ok_Move_added c) (B.room.mono (by decide)) B.pass (d_var 0) (da_cons (d_var 1) (da_nil))))) (ds_nil)) (ds_cons (ds_if (dt_cmp od_gt (d_var 1) (d_globI c.i_MOST_TIMES)) (ds_one (ds_raise rfl (c.x_TooMany _ rfl rfl rfl rfl rfl) exr_TooMany (by decide) (B.room.mono (by decide)) c.g_TooMany B.take B.hT (da_cons (d_str) (da_cons (d_globI c.i_MOST_TIMES) (da_nil))))) (ds_nil)) (ds_cons (ds_set S.nd (d_var 0)) (ds_cons (ds_for (passes_of rfl) rfl (di_range1 c.n_range (da_cons (d_op od_sub (d_var 1) (d_int)) (da_nil))) (fun gh => dg_name S.nd) (fun gh => have B := B.gh gh; ds_one (ds_set S.nd (d_meth (c := "Move") c.c_Move c.m_Move_then (ok_Move_then c) (B.room.mono (by decide)) B.pass (d_var 2) (da_cons (d_var 0) (da_nil)))))) (ds_one (ds_ret (d_var 2))))))), pure_Move_done ds Q EW hf⟩
/-! Move.__eq__ -/
theorem sc_Move___eq__ : FnScope ["self", "other"] ["self", "other"] (defScope s_Move___eq__) := ⟨rfl, rfl, rfl, by decide +kernel, rfl, by decide +kernel, by decide +kernel⟩
theorem ok_Move___eq__ (c : Fx P w K mg base T) : FnR P w K mg base (L2.CX P w) 4 (He.ma K (He.ga K "Move") "__eq__") (spD T K f_Move___eq__) := by
  obtain ⟨fd, Fd⟩ := c.d_Move___eq__
  have S := sc_Move___eq__
  refine fnR_of Fd S (Fd.bindsN fun _ _ _ _ _ _ us hl => match us, hl with | [_, _], _ => rfl) len_Move___eq__ c.hT ?_
  intro cdv A outer s H E g EW ds Q hg hgd B hf
  subst hg
  exact ⟨ws_Move___eq__ EW, ds_cons (ds_if ((dw_or (dt_not (dt_val (d_b (cd_isi c.isi) c.n_isinstance rfl (da_cons (d_var 1) (da_cons (d_cls c.g_Move) (da_nil)))))) (dw_or (dt_cmp (od_neI (by have := B.room.un; show _ < _; omega)) (d_fld (fldOk c.c_Move c.no_Move_own_divisor) (d_var 0)) (d_fld (fldOk c.c_Move c.no_Move_own_divisor) (d_var 1))) (dw_or1 (dt_ownNe c.ow_Ratio___eq__ c.ne_Ratio c.mo_Ratio (ok_Ratio___eq__ c) (B.room.mono (by decide)) B.pass (d_fld (fldOk c.c_Move c.no_Move_own_plus) (d_var 0)) (d_fld (fldOk c.c_Move c.no_Move_own_plus) (d_var 1)))))).pt) (ds_one (ds_ret (d_bl))) (ds_nil)) (ds_one (ds_ret (d_and (d_ownEq c.ow_Ratio___eq__ (ok_Ratio___eq__ c) (B.room.mono (by decide)) B.pass (d_fld (fldOk c.c_Move c.no_Move_own_low) (d_var 0)) (d_fld (fldOk c.c_Move c.no_Move_own_low) (d_var 1))) (d_one (d_ownEq c.ow_Ratio___eq__ (ok_Ratio___eq__ c) (B.room.mono (by decide)) B.pass (d_fld (fldOk c.c_Move c.no_Move_own_high) (d_var 0)) (d_fld (fldOk c.c_Move c.no_Move_own_high) (d_var 1))))))), pure_Move___eq__ ds Q EW hf⟩
end
end DL
namespace DL
open PySem PySem.Spec PyProof.Rows L2
section
variable {P : Program} {w : World} {K : PySem.W.Frag} {mg : Str → Option Value} {base : Heap} {T : Hp → Prop}
theorem sc_law_draw : FnScope ["_law_rng_here", "_law_many", "_law_digit"] ["_law_rng_here", "_law_many"] (defScope s_law_draw) := ⟨rfl, rfl, rfl, by decide +kernel, rfl, by decide +kernel, by decide +kernel⟩
theorem ok_law_draw (c : Fx P w K mg base T) : FnR P w K mg base (L2.CX P w) 1 (He.ga K "_law_draw") (spD T K f_law_draw) := by
  obtain ⟨fd, Fd⟩ := c.d_law_draw
  have S := sc_law_draw
  have F : FnOk P w K mg base (L2.CX P w) 1 (He.ga K "_law_draw") fd ["_law_rng_here", "_law_many"] (spD T K f_law_draw) := Fd.ok S (fun vs H Q E h => by
    obtain ⟨rg, M, ds, P0, R, h1, h2, h3, h4, h5, _⟩ := h
    rw [← h4.length, len_law_draw _ _ _ h5]
    rfl) fun cdv A outer s H vs Q E hr h => by
    refine ⟨t_draw K, ?_, pure_draw c.hT vs H Q E h⟩
    exact pss_cons (ps_if (pt_cmpR op_gt (pe_ix ix_list (pv 0) pe_int (fun _ _ => rfl)) pe_int (nomark _)) (pss_cons (ps_asg (pe_callB call_divmodW rfl c.n_divmod rfl (pa_cons (pe_ix ix_list (pv 0) pe_int (fun _ _ => rfl)) (pa_cons (pv 1) pa_nil))) (pg_tup rfl (pgs_cons (pg_sub (pv 0) pe_int set_list (fun _ => rfl)) (pgs_cons (pg_name S.nd rfl (.inl rfl)) pgs_nil)))) (pss_one (ps_ret (pv 2)))) pss_nil)
      (pss_cons (ps_asg (pe_op op_mod (pe_callTy call_int1 rfl c.n_int rfl (pa_cons (pe_op op_add (pe_op op_mul (pe_ix ix_list (pv 0) pe_int (fun _ _ => rfl)) pe_int) pe_int) pa_nil)) pe_int) (pg_sub (pv 0) pe_int set_list (fun _ => rfl)))
        (pss_one (ps_ret (pe_op op_mod (pe_callTy call_int1 rfl c.n_int rfl (pa_cons (pe_op op_fdivW (pe_op op_mod (pe_callTy call_int1 rfl c.n_int rfl (pa_cons (pe_op op_mul (pe_ix ix_list (pv 0) pe_int (fun _ _ => rfl)) (pe_ix ix_list (pv 0) pe_int (fun _ _ => rfl))) pa_nil)) pe_int) pe_int) pa_nil)) (pv 1)))))
  exact (F.raw (Fd.bindsN fun _ _ _ _ _ _ us hl => match us, hl with | [_, _], _ => rfl) .nil).imp fun vs H Q E h => by rw [List.append_nil]; exact h
theorem clas_len : ∀ q ∈ clas, q.its.length ≤ 100 := by
  intro q hq
  simp only [clas, List.mem_cons, List.not_mem_nil, or_false] at hq
  rcases hq with rfl | rfl | rfl <;> decide
theorem sc_law_told : FnScope ["_law_call", "_law_heard", "e"] ["_law_call"] (defScope s_law_told) := ⟨rfl, rfl, rfl, by decide +kernel, rfl, by decide +kernel, by decide +kernel⟩
theorem gv_told {X : Cx} {T : Hp → Prop} {k : Nat} {cdg : Value} {q : Str} (c : Fx X.prog X.w X.K X.mg X.base T) (hgd : X.A.guards = some []) (hr : Room (k + 2) X.A) : LamX.GivesTo X ["_law_call", "_law_heard", "e"] "_law_told" (defScope s_law_told) (He.ga X.K "_law_told") cdg (defBody s_law_told) "_law_call" q (TTold X.K clas) := by
  have S := sc_law_told
  refine gives_told rfl S c.n_repr c.exm clas_len (by rfl) (fun s H => ps_asg (pe_lst (pa_cons pe_str pa_nil)) (pg_name S.nd rfl (.inl rfl))) (fun s H pn xe tc h => pss_one (ps_asg (pe_lst (pa_cons pe_str (pa_cons (pe_callB (x := "repr") SkE.call_repr_int rfl c.n_repr rfl (pa_cons (h _ _) pa_nil)) pa_nil))) (pg_name S.nd rfl (.inl rfl))))
    (fun s H => ps_ret (pv 1)) fun s H => ?_
  refine .cons ⟨rfl, by decide, .inl c.g_InvalidMove⟩ rfl rfl (fun e oe cls dd pn hz hf => pss_one (ps_asg (pe_lst (pa_cons pe_str (pa_cons (pe_xf c.xf_InvalidMove c.no_InvalidMove_part hz hf (pv 2)) pa_nil))) (pg_name S.nd rfl (.inl rfl)))) ?_
  refine .cons ⟨rfl, by decide, .inl c.g_InvalidCount⟩ rfl rfl (fun e oe cls dd pn hz hf => pss_one (ps_asg (pe_lst (pa_cons pe_str (pa_cons (pe_callB (x := "repr") (call_reprAll hgd (by have := hr.un; show X.A.units + 3 + 64 < _; omega) (by have := hr.dp; show X.A.depth + 1 + 8 < _; omega) c.repK) rfl c.n_repr rfl (pa_cons (pe_xf c.xf_InvalidCount c.no_InvalidCount_value hz hf (pv 2)) pa_nil)) pa_nil))) (pg_name S.nd rfl (.inl rfl)))) ?_
  exact .cons ⟨rfl, by decide, .inl c.g_TooMany⟩ rfl rfl (fun e oe cls dd pn hz hf => pss_one (ps_asg (pe_lst (pa_cons pe_str (pa_cons (pe_xf c.xf_TooMany c.no_TooMany_kind hz hf (pv 2)) (pa_cons (pe_xf c.xf_TooMany c.no_TooMany_limit hz hf (pv 2)) pa_nil)))) (pg_name S.nd rfl (.inl rfl)))) .nil
theorem d_tl {X : Cx} {g : G} {T : Hp → Prop} {w : (D → Prop) → WE} {k : Nat} {params : Arguments} {body : Expr} {scope : Scope} {p lpos pos : Pos} (c : Fx X.prog X.w X.K X.mg X.base T) (hgT : g.T = T) (nm : Str) (hcode : X.env.code = .ref (He.cT X.K (nm, none)).1) (hq : X.env.qual = nm ++ ".<locals>.") (hmem : nm ∈ lamOf) (hgd : X.A.guards = some []) (hr : Room (k + 2) X.A)
    (L : LamX.LamS X.env.scope scope) (hdef : defaultsOf params X.env = ([], [])) (hbind : ∀ (q : Str) (cl : List (Str × Addr)) (pm cv ctv : Value), bindArgs (PySem.W.kla_fn "<lambda>" q params body scope cl pm cv ctv) ⟨[], []⟩ = pure [])
    (hbody : ∀ (A : Around) (outer : List Env) (s : Shared) (H : Hp) (E : XK) (f c' : Addr) (g' : G) (EW : D → Prop), g'.T = g.T → BD (LamX.lamCx X A outer s H E scope f c') g' k EW → PE (LamX.lamCx X A outer s H E scope f c') body (liftE g' X.K (w EW)))
    (hg : Gl X "_law_told" := by rfl) : PE X (.Call (.Name "_law_told" p) [.Lambda params body scope lpos] [] pos) (liftE g X.K (wTold clas w)) := by
  obtain ⟨fd, Fd⟩ := c.d_law_told
  have bi : L2.Binds X.K fd ["_law_call"] [] := Fd.bindsN fun _ _ _ _ _ _ us hl => match us, hl with | [_], _ => rfl
  obtain ⟨oc, od, dV, kV, doc, pm, an, cdv, ct, osl, rfl, lk, hcd, _, _⟩ := Fd.ex
  have hm : ((He.cT X.K (nm, none)).2, X.env.qual ++ "<lambda>") ∈ Tbs X.K := by
    rw [hq]
    exact List.mem_map.mpr ⟨nm, hmem, rfl⟩
  refine d_told (Tb := Tbs X.K) (hgT.trans c.tT) hg c.g__law_told c.k__law_told lk hcd bi sc_law_told rfl (.inl rfl) (gv_told c hgd hr) (c.tb nm hmem) hcode hm ?_ hr L hdef hbind hbody
  intro z hz e
  obtain ⟨y, hy, rfl⟩ := List.mem_map.mp hz
  have key : y = nm := by
    have e : (He.cT X.K (y, none)).2 = (He.cT X.K (nm, none)).2 := e
    have tn := c.tne
    simp only [lamOf, List.mem_cons, List.not_mem_nil, or_false] at hy hmem
    rcases hy with rfl | rfl <;> rcases hmem with rfl | rfl
    · rfl
    · exact absurd e tn
    · exact absurd e.symm tn
    · rfl
  rw [key, hq]
/-! _law_choice -/
theorem sc_law_choice : FnScope ["_law_rng_here", "_law_some"] ["_law_rng_here", "_law_some"] (defScope s_law_choice) := ⟨rfl, rfl, rfl, by decide +kernel, rfl, by decide +kernel, by decide +kernel⟩
theorem ok_law_choice (c : Fx P w K mg base T) : FnG P w K mg base (L2.CX P w) 2 (He.ga K "_law_choice") (spD T K f_law_choice) := by
  obtain ⟨fd, Fd⟩ := c.d_law_choice
  have S := sc_law_choice
  refine fnG_of Fd S (Fd.bindsN fun _ _ _ _ _ _ us hl => match us, hl with | [_, _], _ => rfl) len_law_choice c.hT ?_
  intro cdv A outer s H E g EW ds Q hg hgd B hf
  have hgd : A.guards = some [] := hgd trivial
  subst hg
  exact ⟨ws_law_choice EW, ds_one (ds_ret (d_ix (d_var 1) (d_fn (ok_law_draw c) (B.room.mono (by decide)) c.g__law_draw c.k__law_draw B.pass (da_cons (d_var 0) (da_cons (d_b (cd_len) c.n_len rfl (da_cons (d_var 1) (da_nil))) (da_nil)))))), pure_law_choice ds Q EW hf⟩
/-! _law_plain -/
theorem sc_law_plain : FnScope ["_law_top", "_law_bottom", "_law_sign", "_law_first", "_law_second"] ["_law_top", "_law_bottom"] (defScope s_law_plain) := ⟨rfl, rfl, rfl, by decide +kernel, rfl, by decide +kernel, by decide +kernel⟩
theorem ok_law_plain (c : Fx P w K mg base T) : FnG P w K mg base (L2.CX P w) 2 (He.ga K "_law_plain") (spD T K f_law_plain) := by
  obtain ⟨fd, Fd⟩ := c.d_law_plain
  have S := sc_law_plain
  refine fnG_of Fd S (Fd.bindsN fun _ _ _ _ _ _ us hl => match us, hl with | [_, _], _ => rfl) len_law_plain c.hT ?_
  intro cdv A outer s H E g EW ds Q hg hgd B hf
  have hgd : A.guards = some [] := hgd trivial
  subst hg
  exact ⟨ws_law_plain EW, ds_cons (ds_par2' rfl S.nd (da_cons (d_b (cd_abs) c.n_abs rfl (da_cons (d_var 0) (da_nil))) (da_cons (d_b (cd_abs) c.n_abs rfl (da_cons (d_var 1) (da_nil))) (da_nil))) rfl) (ds_cons (ds_while (passes_of rfl) (dt_cmp (od_neI (by have := B.room.un; show _ < _; omega)) (d_var 4) (d_int)) (ds_one (ds_par2' rfl S.nd (da_cons (d_var 4) (da_cons (d_op od_mod (d_ty cd_int c.n_int rfl (da_cons (d_var 3) (da_nil))) (d_var 4)) (da_nil))) rfl))) (ds_cons (ds_set S.nd (d_if (dt_cmp od_lt (d_var 1) (d_int)) (d_un und_neg (d_int)) (d_int))) (ds_one (ds_ret (d_tup B.hT (da_cons (d_op od_div (d_op od_mul (d_var 2) (d_var 0)) (d_var 3)) (da_cons (d_op od_div (d_b (cd_abs) c.n_abs rfl (da_cons (d_var 1) (da_nil))) (d_var 3)) (da_nil)))))))), pure_law_plain ds Q EW hf⟩
/-! _law_sum -/
theorem sc_law_sum : FnScope ["_law_near_here", "_law_far"] ["_law_near_here", "_law_far"] (defScope s_law_sum) := ⟨rfl, rfl, rfl, by decide +kernel, rfl, by decide +kernel, by decide +kernel⟩
theorem ok_law_sum (c : Fx P w K mg base T) : FnG P w K mg base (L2.CX P w) 3 (He.ga K "_law_sum") (spD T K f_law_sum) := by
  obtain ⟨fd, Fd⟩ := c.d_law_sum
  have S := sc_law_sum
  refine fnG_of Fd S (Fd.bindsN fun _ _ _ _ _ _ us hl => match us, hl with | [_, _], _ => rfl) len_law_sum c.hT ?_
  intro cdv A outer s H E g EW ds Q hg hgd B hf
  have hgd : A.guards = some [] := hgd trivial
  subst hg
  exact ⟨ws_law_sum EW, ds_one (ds_ret (d_fnG (ok_law_plain c) hgd (B.room.mono (by decide)) c.g__law_plain c.k__law_plain B.pass (da_cons (d_op od_add (d_op od_mul (d_ix (d_var 0) (d_int)) (d_ix (d_var 1) (d_int))) (d_op od_mul (d_ix (d_var 1) (d_int)) (d_ix (d_var 0) (d_int)))) (da_cons (d_op od_mul (d_ix (d_var 0) (d_int)) (d_ix (d_var 1) (d_int))) (da_nil))))), pure_law_sum ds Q EW hf⟩
/-! _law_less -/
theorem sc_law_less : FnScope ["_law_near_here", "_law_far"] ["_law_near_here", "_law_far"] (defScope s_law_less) := ⟨rfl, rfl, rfl, by decide +kernel, rfl, by decide +kernel, by decide +kernel⟩
theorem ok_law_less (c : Fx P w K mg base T) : FnG P w K mg base (L2.CX P w) 1 (He.ga K "_law_less") (spD T K f_law_less) := by
  obtain ⟨fd, Fd⟩ := c.d_law_less
  have S := sc_law_less
  refine fnG_of Fd S (Fd.bindsN fun _ _ _ _ _ _ us hl => match us, hl with | [_, _], _ => rfl) len_law_less c.hT ?_
  intro cdv A outer s H E g EW ds Q hg hgd B hf
  have hgd : A.guards = some [] := hgd trivial
  subst hg
  exact ⟨ws_law_less EW, ds_one (ds_ret (d_cmp od_lt (d_op od_mul (d_ix (d_var 0) (d_int)) (d_ix (d_var 1) (d_int))) (d_op od_mul (d_ix (d_var 1) (d_int)) (d_ix (d_var 0) (d_int))))), pure_law_less ds Q EW hf⟩
/-! _law_fraction -/
theorem sc_law_fraction : FnScope ["_law_rng_here"] ["_law_rng_here"] (defScope s_law_fraction) := ⟨rfl, rfl, rfl, by decide +kernel, rfl, by decide +kernel, by decide +kernel⟩
theorem ok_law_fraction (c : Fx P w K mg base T) : FnG P w K mg base (L2.CX P w) 3 (He.ga K "_law_fraction") (spD T K f_law_fraction) := by
  obtain ⟨fd, Fd⟩ := c.d_law_fraction
  have S := sc_law_fraction
  refine fnG_of Fd S (Fd.bindsN fun _ _ _ _ _ _ us hl => match us, hl with | [_], _ => rfl) len_law_fraction c.hT ?_
  intro cdv A outer s H E g EW ds Q hg hgd B hf
  have hgd : A.guards = some [] := hgd trivial
  subst hg
  exact ⟨ws_law_fraction EW, ds_cons (ds_if (dt_cmp (od_eqI (by have := B.room.un; show _ < _; omega)) (d_fn (ok_law_draw c) (B.room.mono (by decide)) c.g__law_draw c.k__law_draw B.pass (da_cons (d_var 0) (da_cons (d_int) (da_nil)))) (d_int)) (ds_one (ds_ret (d_fnG (ok_law_plain c) hgd (B.room.mono (by decide)) c.g__law_plain c.k__law_plain B.pass (da_cons (d_fnG (ok_law_choice c) hgd (B.room.mono (by decide)) c.g__law_choice c.k__law_choice B.pass (da_cons (d_var 0) (da_cons (d_lst B.hT (da_cons (d_op od_add (d_op od_pow (d_int) (d_int)) (d_int)) (da_cons (d_un und_neg (d_op od_pow (d_int) (d_int))) (da_cons (d_op od_mul (d_int) (d_op od_pow (d_int) (d_int))) (da_nil))))) (da_nil)))) (da_cons (d_op od_add (d_int) (d_fn (ok_law_draw c) (B.room.mono (by decide)) c.g__law_draw c.k__law_draw B.pass (da_cons (d_var 0) (da_cons (d_op od_pow (d_int) (d_int)) (da_nil))))) (da_nil)))))) (ds_nil)) (ds_one (ds_ret (d_fnG (ok_law_plain c) hgd (B.room.mono (by decide)) c.g__law_plain c.k__law_plain B.pass (da_cons (d_op od_sub (d_fn (ok_law_draw c) (B.room.mono (by decide)) c.g__law_draw c.k__law_draw B.pass (da_cons (d_var 0) (da_cons (d_int) (da_nil)))) (d_int)) (da_cons (d_fnG (ok_law_choice c) hgd (B.room.mono (by decide)) c.g__law_choice c.k__law_choice B.pass (da_cons (d_var 0) (da_cons (d_lst B.hT (da_cons (d_int) (da_cons (d_int) (da_cons (d_int) (da_cons (d_int) (da_cons (d_int) (da_cons (d_int) (da_nil)))))))) (da_nil)))) (da_nil)))))), pure_law_fraction ds Q EW hf⟩
/-! _law_real -/
theorem sc_law_real : FnScope ["_law_rng_here", "_law_part"] ["_law_rng_here", "_law_part"] (defScope s_law_real) := ⟨rfl, rfl, rfl, by decide +kernel, rfl, by decide +kernel, by decide +kernel⟩
theorem ok_law_real (c : Fx P w K mg base T) : FnG P w K mg base (L2.CX P w) 6 (He.ga K "_law_real") (spD T K f_law_real) := by
  obtain ⟨fd, Fd⟩ := c.d_law_real
  have S := sc_law_real
  refine fnG_of Fd S (Fd.bindsN fun _ _ _ _ _ _ us hl => match us, hl with | [_, _], _ => rfl) len_law_real c.hT ?_
  intro cdv A outer s H E g EW ds Q hg hgd B hf
  have hgd : A.guards = some [] := hgd trivial
  subst hg
  exact ⟨ws_law_real EW, ds_one (ds_ret (d_if ((dw_and (dt_cmp (od_eqI (by have := B.room.un; show _ < _; omega)) (d_ix (d_var 1) (d_int)) (d_int)) (dw_and1 (dt_cmp (od_eqI (by have := B.room.un; show _ < _; omega)) (d_fn (ok_law_draw c) (B.room.mono (by decide)) c.g__law_draw c.k__law_draw B.pass (da_cons (d_var 0) (da_cons (d_int) (da_nil)))) (d_int)))).pt) (d_ix (d_var 1) (d_int)) (d_mk B.hT c.mk_Ratio (ok_Ratio___init___2 c) (B.room.mono (by decide)) c.g_Ratio B.pass (da_cons (d_ix (d_var 1) (d_int)) (da_cons (d_ix (d_var 1) (d_int)) (da_nil)))))), pure_law_real ds Q EW hf⟩
/-! _law_is -/
theorem sc_law_is : FnScope ["_law_made_here", "_law_part"] ["_law_made_here", "_law_part"] (defScope s_law_is) := ⟨rfl, rfl, rfl, by decide +kernel, rfl, by decide +kernel, by decide +kernel⟩
theorem ok_law_is (c : Fx P w K mg base T) : FnG P w K mg base (L2.CX P w) 4 (He.ga K "_law_is") (spD T K f_law_is) := by
  obtain ⟨fd, Fd⟩ := c.d_law_is
  have S := sc_law_is
  refine fnG_of Fd S (Fd.bindsN fun _ _ _ _ _ _ us hl => match us, hl with | [_, _], _ => rfl) len_law_is c.hT ?_
  intro cdv A outer s H E g EW ds Q hg hgd B hf
  have hgd : A.guards = some [] := hgd trivial
  subst hg
  exact ⟨ws_law_is EW, ds_one (ds_ret (d_and (d_b (cd_isi c.isi) c.n_isinstance rfl (da_cons (d_var 0) (da_cons (d_cls c.g_Ratio) (da_nil)))) (d_one (d_cmp od_eqS (d_b (cd_repr hgd (by have := B.room.un; show _ < _; omega)) c.n_repr rfl (da_cons (d_lst B.hT (da_cons (d_prop (propOk c.p_Ratio_top) (B.room.mono (by decide)) (d_var 0)) (da_cons (d_prop (propOk c.p_Ratio_bottom) (B.room.mono (by decide)) (d_var 0)) (da_nil)))) (da_nil))) (d_b (cd_repr hgd (by have := B.room.un; show _ < _; omega)) c.n_repr rfl (da_cons (d_lst B.hT (da_cons (d_ix (d_var 1) (d_int)) (da_cons (d_ix (d_var 1) (d_int)) (da_nil)))) (da_nil))))))), pure_law_is ds Q EW hf⟩
/-! _law_over -/
theorem sc_law_over : FnScope ["_law_near_here", "_law_far"] ["_law_near_here", "_law_far"] (defScope s_law_over) := ⟨rfl, rfl, rfl, by decide +kernel, rfl, by decide +kernel, by decide +kernel⟩
theorem ok_law_over (c : Fx P w K mg base T) : FnG P w K mg base (L2.CX P w) 3 (He.ga K "_law_over") (spD T K f_law_over) := by
  obtain ⟨fd, Fd⟩ := c.d_law_over
  have S := sc_law_over
  refine fnG_of Fd S (Fd.bindsN fun _ _ _ _ _ _ us hl => match us, hl with | [_, _], _ => rfl) len_law_over c.hT ?_
  intro cdv A outer s H E g EW ds Q hg hgd B hf
  have hgd : A.guards = some [] := hgd trivial
  subst hg
  exact ⟨ws_law_over EW, ds_one (ds_ret (d_fnG (ok_law_plain c) hgd (B.room.mono (by decide)) c.g__law_plain c.k__law_plain B.pass (da_cons (d_op od_mul (d_ix (d_var 0) (d_int)) (d_ix (d_var 1) (d_int))) (da_cons (d_op od_mul (d_ix (d_var 0) (d_int)) (d_ix (d_var 1) (d_int))) (da_nil))))), pure_law_over ds Q EW hf⟩
/-! _law_move -/
theorem sc_law_move : FnScope ["_law_rng_here", "_law_parts"] ["_law_rng_here"] (defScope s_law_move) := ⟨rfl, rfl, rfl, by decide +kernel, rfl, by decide +kernel, by decide +kernel⟩
theorem ok_law_move (c : Fx P w K mg base T) : FnG P w K mg base (L2.CX P w) 4 (He.ga K "_law_move") (spD T K f_law_move) := by
  obtain ⟨fd, Fd⟩ := c.d_law_move
  have S := sc_law_move
  refine fnG_of Fd S (Fd.bindsN fun _ _ _ _ _ _ us hl => match us, hl with | [_], _ => rfl) len_law_move c.hT ?_
  intro cdv A outer s H E g EW ds Q hg hgd B hf
  have hgd : A.guards = some [] := hgd trivial
  subst hg
  exact ⟨ws_law_move EW, ds_cons (ds_setOwn B.hT S.nd (da_cons (d_fnG (ok_law_fraction c) hgd (B.room.mono (by decide)) c.g__law_fraction c.k__law_fraction B.pass (da_cons (d_var 0) (da_nil))) (da_cons (d_fnG (ok_law_fraction c) hgd (B.room.mono (by decide)) c.g__law_fraction c.k__law_fraction B.pass (da_cons (d_var 0) (da_nil))) (da_nil)))) (ds_cons (ds_if (dt_val (d_fnG (ok_law_less c) hgd (B.room.mono (by decide)) c.g__law_less c.k__law_less B.pass (da_cons (d_ownIx (d_int)) (da_cons (d_ownIx (d_int)) (da_nil))))) (ds_one (ds_ownRev B.hT S.nd)) (ds_nil)) (ds_cons (ds_if (dt_cmp (od_eqI (by have := B.room.un; show _ < _; omega)) (d_fn (ok_law_draw c) (B.room.mono (by decide)) c.g__law_draw c.k__law_draw B.pass (da_cons (d_var 0) (da_cons (d_int) (da_nil)))) (d_int)) (ds_one (ds_ownPut B.hT (d_ownIx (d_int)) (d_int))) (ds_nil)) (ds_one (ds_ret (d_tup B.hT (da_cons (d_fnG (ok_law_choice c) hgd (B.room.mono (by decide)) c.g__law_choice c.k__law_choice B.pass (da_cons (d_var 0) (da_cons (d_lst B.hT (da_cons (d_int) (da_cons (d_int) (da_cons (d_int) (da_cons (d_int) (da_cons (d_int) (da_cons (d_int) (da_cons (d_op od_add (d_int) (d_fn (ok_law_draw c) (B.room.mono (by decide)) c.g__law_draw c.k__law_draw B.pass (da_cons (d_var 0) (da_cons (d_int) (da_nil))))) (da_nil))))))))) (da_nil)))) (da_cons (d_fnG (ok_law_fraction c) hgd (B.room.mono (by decide)) c.g__law_fraction c.k__law_fraction B.pass (da_cons (d_var 0) (da_nil))) (da_cons (d_ownIx (d_int)) (da_cons (d_ownIx (d_int)) (da_nil)))))))))), pure_law_move ds Q EW hf⟩
/-! _law_at -/
theorem sc_law_at : FnScope ["_law_row", "_law_part", "_law_found", "_law_divisor", "_law_plus", "_law_low", "_law_high"] ["_law_row", "_law_part"] (defScope s_law_at) := ⟨rfl, rfl, rfl, by decide +kernel, rfl, by decide +kernel, by decide +kernel⟩
theorem ok_law_at (c : Fx P w K mg base T) : FnG P w K mg base (L2.CX P w) 4 (He.ga K "_law_at") (spD T K f_law_at) := by
  obtain ⟨fd, Fd⟩ := c.d_law_at
  have S := sc_law_at
  refine fnG_of Fd S (Fd.bindsN fun _ _ _ _ _ _ us hl => match us, hl with | [_, _], _ => rfl) len_law_at c.hT ?_
  intro cdv A outer s H E g EW ds Q hg hgd B hf
  have hgd : A.guards = some [] := hgd trivial
  subst hg
  exact ⟨ws_law_at EW, ds_cons (ds_asg (d_var 0) (dg_tup rfl (dgs_cons S.nd (dgs_cons S.nd (dgs_cons S.nd (dgs_cons S.nd dgs_nil)))))) (ds_cons (ds_set S.nd (d_fnG (ok_law_over c) hgd (B.room.mono (by decide)) c.g__law_over c.k__law_over B.pass (da_cons (d_fnG (ok_law_sum c) hgd (B.room.mono (by decide)) c.g__law_sum c.k__law_sum B.pass (da_cons (d_var 1) (da_cons (d_var 4) (da_nil)))) (da_cons (d_tup B.hT (da_cons (d_var 3) (da_cons (d_int) (da_nil)))) (da_nil))))) (ds_cons (ds_if (dt_val (d_fnG (ok_law_less c) hgd (B.room.mono (by decide)) c.g__law_less c.k__law_less B.pass (da_cons (d_var 2) (da_cons (d_var 5) (da_nil))))) (ds_one (ds_ret (d_var 5))) (ds_nil)) (ds_one (ds_ret (d_if (dt_val (d_fnG (ok_law_less c) hgd (B.room.mono (by decide)) c.g__law_less c.k__law_less B.pass (da_cons (d_var 6) (da_cons (d_var 2) (da_nil))))) (d_var 6) (d_var 2)))))), pure_law_at ds Q EW hf⟩
/-! _law_made -/
theorem sc_law_made : FnScope ["_law_rng_here", "_law_row"] ["_law_rng_here", "_law_row"] (defScope s_law_made) := ⟨rfl, rfl, rfl, by decide +kernel, rfl, by decide +kernel, by decide +kernel⟩
theorem ok_law_made (c : Fx P w K mg base T) : FnG P w K mg base (L2.CX P w) 9 (He.ga K "_law_made") (spD T K f_law_made) := by
  obtain ⟨fd, Fd⟩ := c.d_law_made
  have S := sc_law_made
  refine fnG_of Fd S (Fd.bindsN fun _ _ _ _ _ _ us hl => match us, hl with | [_, _], _ => rfl) len_law_made c.hT ?_
  intro cdv A outer s H E g EW ds Q hg hgd B hf
  have hgd : A.guards = some [] := hgd trivial
  subst hg
  exact ⟨ws_law_made EW, ds_one (ds_ret (d_mk B.hT c.mk_Move (ok_Move___init__ c) (B.room.mono (by decide)) c.g_Move B.pass (da_cons (d_ix (d_var 1) (d_int)) (da_cons (d_fnG (ok_law_real c) hgd (B.room.mono (by decide)) c.g__law_real c.k__law_real B.pass (da_cons (d_var 0) (da_cons (d_ix (d_var 1) (d_int)) (da_nil)))) (da_cons (d_fnG (ok_law_real c) hgd (B.room.mono (by decide)) c.g__law_real c.k__law_real B.pass (da_cons (d_var 0) (da_cons (d_ix (d_var 1) (d_int)) (da_nil)))) (da_cons (d_fnG (ok_law_real c) hgd (B.room.mono (by decide)) c.g__law_real c.k__law_real B.pass (da_cons (d_var 0) (da_cons (d_ix (d_var 1) (d_int)) (da_nil)))) (da_nil))))))), pure_law_made ds Q EW hf⟩
/-! _law_is_move -/
theorem sc_law_is_move : FnScope ["_law_made_here", "_law_row"] ["_law_made_here", "_law_row"] (defScope s_law_is_move) := ⟨rfl, rfl, rfl, by decide +kernel, rfl, by decide +kernel, by decide +kernel⟩
theorem ok_law_is_move (c : Fx P w K mg base T) : FnG P w K mg base (L2.CX P w) 5 (He.ga K "_law_is_move") (spD T K f_law_is_move) := by
  obtain ⟨fd, Fd⟩ := c.d_law_is_move
  have S := sc_law_is_move
  refine fnG_of Fd S (Fd.bindsN fun _ _ _ _ _ _ us hl => match us, hl with | [_, _], _ => rfl) len_law_is_move c.hT ?_
  intro cdv A outer s H E g EW ds Q hg hgd B hf
  have hgd : A.guards = some [] := hgd trivial
  subst hg
  exact ⟨ws_law_is_move EW, ds_cons (ds_if ((dw_or (dt_not (dt_val (d_b (cd_isi c.isi) c.n_isinstance rfl (da_cons (d_var 0) (da_cons (d_cls c.g_Move) (da_nil)))))) (dw_or1 (dt_cmp od_neS (d_b (cd_repr hgd (by have := B.room.un; show _ < _; omega)) c.n_repr rfl (da_cons (d_prop (propOk c.p_Move_divisor) (B.room.mono (by decide)) (d_var 0)) (da_nil))) (d_b (cd_repr hgd (by have := B.room.un; show _ < _; omega)) c.n_repr rfl (da_cons (d_ix (d_var 1) (d_int)) (da_nil)))))).pt) (ds_one (ds_ret (d_bl))) (ds_nil)) (ds_one (ds_ret (d_and (d_fnG (ok_law_is c) hgd (B.room.mono (by decide)) c.g__law_is c.k__law_is B.pass (da_cons (d_prop (propOk c.p_Move_plus) (B.room.mono (by decide)) (d_var 0)) (da_cons (d_ix (d_var 1) (d_int)) (da_nil)))) (d_and (d_fnG (ok_law_is c) hgd (B.room.mono (by decide)) c.g__law_is c.k__law_is B.pass (da_cons (d_prop (propOk c.p_Move_low) (B.room.mono (by decide)) (d_var 0)) (da_cons (d_ix (d_var 1) (d_int)) (da_nil)))) (d_one (d_fnG (ok_law_is c) hgd (B.room.mono (by decide)) c.g__law_is c.k__law_is B.pass (da_cons (d_prop (propOk c.p_Move_high) (B.room.mono (by decide)) (d_var 0)) (da_cons (d_ix (d_var 1) (d_int)) (da_nil))))))))), pure_law_is_move ds Q EW hf⟩
/-! _law_near -/
theorem sc_law_near : FnScope ["_law_rng_here", "_law_row", "_law_found", "_law_part", "_law_divisor", "_law_plus", "_law_low", "_law_high", "_law_back"] ["_law_rng_here", "_law_row"] (defScope s_law_near) := ⟨rfl, rfl, rfl, by decide +kernel, rfl, by decide +kernel, by decide +kernel⟩
theorem ok_law_near (c : Fx P w K mg base T) : FnG P w K mg base (L2.CX P w) 4 (He.ga K "_law_near") (spD T K f_law_near) := by
  obtain ⟨fd, Fd⟩ := c.d_law_near
  have S := sc_law_near
  refine fnG_of Fd S (Fd.bindsN fun _ _ _ _ _ _ us hl => match us, hl with | [_, _], _ => rfl) len_law_near c.hT ?_
  intro cdv A outer s H E g EW ds Q hg hgd B hf
  have hgd : A.guards = some [] := hgd trivial
  subst hg
  exact ⟨ws_law_near EW, ds_cons (ds_asg (d_var 1) (dg_tup rfl (dgs_cons S.nd (dgs_cons S.nd (dgs_cons S.nd (dgs_cons S.nd dgs_nil)))))) (ds_cons (ds_set S.nd (d_lst B.hT (da_cons (d_fnG (ok_law_fraction c) hgd (B.room.mono (by decide)) c.g__law_fraction c.k__law_fraction B.pass (da_cons (d_var 0) (da_nil))) (da_cons (d_fnG (ok_law_fraction c) hgd (B.room.mono (by decide)) c.g__law_fraction c.k__law_fraction B.pass (da_cons (d_var 0) (da_nil))) (da_cons (d_var 6) (da_cons (d_var 7) (da_nil))))))) (ds_cons (ds_for (passes_of rfl) rfl (di_lst (d_lst B.hT (da_cons (d_var 6) (da_cons (d_var 7) (da_nil))))) (fun gh => dg_name S.nd) (fun gh => have B := B.gh gh; ds_cons (ds_set S.nd (d_fnG (ok_law_sum c) hgd (B.room.mono (by decide)) c.g__law_sum c.k__law_sum B.pass (da_cons (d_fnG (ok_law_plain c) hgd (B.room.mono (by decide)) c.g__law_plain c.k__law_plain B.pass (da_cons (d_op od_mul (d_ix (d_var 3) (d_int)) (d_var 4)) (da_cons (d_ix (d_var 3) (d_int)) (da_nil)))) (da_cons (d_tup B.hT (da_cons (d_un und_neg (d_ix (d_var 5) (d_int))) (da_cons (d_ix (d_var 5) (d_int)) (da_nil)))) (da_nil))))) (ds_one (ds_set S.nd (d_op (opd_catL B.hT) (d_var 2) (d_lst B.hT (da_cons (d_var 8) (da_cons (d_fnG (ok_law_sum c) hgd (B.room.mono (by decide)) c.g__law_sum c.k__law_sum B.pass (da_cons (d_var 8) (da_cons (d_tup B.hT (da_cons (d_int) (da_cons (d_int) (da_nil)))) (da_nil)))) (da_cons (d_fnG (ok_law_sum c) hgd (B.room.mono (by decide)) c.g__law_sum c.k__law_sum B.pass (da_cons (d_var 8) (da_cons (d_tup B.hT (da_cons (d_un und_neg (d_int)) (da_cons (d_int) (da_nil)))) (da_nil)))) (da_nil)))))))))) (ds_one (ds_ret (d_var 2))))), pure_law_near ds Q EW hf⟩
/-! _law_then -/
theorem sc_law_then : FnScope ["_law_row", "_law_further", "_law_plus"] ["_law_row", "_law_further"] (defScope s_law_then) := ⟨rfl, rfl, rfl, by decide +kernel, rfl, by decide +kernel, by decide +kernel⟩
theorem ok_law_then (c : Fx P w K mg base T) : FnG P w K mg base (L2.CX P w) 5 (He.ga K "_law_then") (spD T K f_law_then) := by
  obtain ⟨fd, Fd⟩ := c.d_law_then
  have S := sc_law_then
  refine fnG_of Fd S (Fd.bindsN fun _ _ _ _ _ _ us hl => match us, hl with | [_, _], _ => rfl) len_law_then c.hT ?_
  intro cdv A outer s H E g EW ds Q hg hgd B hf
  have hgd : A.guards = some [] := hgd trivial
  subst hg
  exact ⟨ws_law_then EW, ds_cons (ds_set S.nd (d_fnG (ok_law_sum c) hgd (B.room.mono (by decide)) c.g__law_sum c.k__law_sum B.pass (da_cons (d_ix (d_var 0) (d_int)) (da_cons (d_fnG (ok_law_plain c) hgd (B.room.mono (by decide)) c.g__law_plain c.k__law_plain B.pass (da_cons (d_op od_mul (d_ix (d_ix (d_var 1) (d_int)) (d_int)) (d_ix (d_var 0) (d_int))) (da_cons (d_ix (d_ix (d_var 1) (d_int)) (d_int)) (da_nil)))) (da_nil))))) (ds_one (ds_ret (d_tup B.hT (da_cons (d_op od_mul (d_ix (d_var 0) (d_int)) (d_ix (d_var 1) (d_int))) (da_cons (d_var 2) (da_cons (d_fnG (ok_law_at c) hgd (B.room.mono (by decide)) c.g__law_at c.k__law_at B.pass (da_cons (d_var 1) (da_cons (d_ix (d_var 0) (d_int)) (da_nil)))) (da_cons (d_fnG (ok_law_at c) hgd (B.room.mono (by decide)) c.g__law_at c.k__law_at B.pass (da_cons (d_var 1) (da_cons (d_ix (d_var 0) (d_int)) (da_nil)))) (da_nil)))))))), pure_law_then ds Q EW hf⟩
/-! _law_raised -/
theorem sc_law_raised : FnScope ["_law_row", "_law_many", "_law_plus", "_law_before", "_law_held"] ["_law_row", "_law_many"] (defScope s_law_raised) := ⟨rfl, rfl, rfl, by decide +kernel, rfl, by decide +kernel, by decide +kernel⟩
theorem ok_law_raised (c : Fx P w K mg base T) : FnG P w K mg base (L2.CX P w) 5 (He.ga K "_law_raised") (spD T K f_law_raised) := by
  obtain ⟨fd, Fd⟩ := c.d_law_raised
  have S := sc_law_raised
  refine fnG_of Fd S (Fd.bindsN fun _ _ _ _ _ _ us hl => match us, hl with | [_, _], _ => rfl) len_law_raised c.hT ?_
  intro cdv A outer s H E g EW ds Q hg hgd B hf
  have hgd : A.guards = some [] := hgd trivial
  subst hg
  exact ⟨ws_law_raised EW, ds_cons (ds_set S.nd (d_ix (d_var 0) (d_int))) (ds_cons (ds_set S.nd (d_fnG (ok_law_plain c) hgd (B.room.mono (by decide)) c.g__law_plain c.k__law_plain B.pass (da_cons (d_op od_mul (d_ix (d_var 2) (d_int)) (d_op od_sub (d_var 1) (d_int))) (da_cons (d_ix (d_var 2) (d_int)) (da_nil))))) (ds_cons (ds_set S.nd (d_tup B.hT (da_cons (d_int) (da_cons (d_var 3) (da_cons (d_ix (d_var 0) (d_int)) (da_cons (d_ix (d_var 0) (d_int)) (da_nil))))))) (ds_one (ds_ret (d_tup B.hT (da_cons (d_int) (da_cons (d_fnG (ok_law_plain c) hgd (B.room.mono (by decide)) c.g__law_plain c.k__law_plain B.pass (da_cons (d_op od_mul (d_ix (d_var 2) (d_int)) (d_var 1)) (da_cons (d_ix (d_var 2) (d_int)) (da_nil)))) (da_cons (d_fnG (ok_law_at c) hgd (B.room.mono (by decide)) c.g__law_at c.k__law_at B.pass (da_cons (d_var 4) (da_cons (d_ix (d_var 0) (d_int)) (da_nil)))) (da_cons (d_fnG (ok_law_at c) hgd (B.room.mono (by decide)) c.g__law_at c.k__law_at B.pass (da_cons (d_var 4) (da_cons (d_ix (d_var 0) (d_int)) (da_nil)))) (da_nil)))))))))), pure_law_raised ds Q EW hf⟩
/-! _law_then_right -/
theorem sc_law_then_right : FnScope ["_law_rng_here", "_law_rows", "_law_made_here", "_law_due", "_law_whole", "_law_part", "_law_row"] ["_law_rng_here", "_law_rows"] (defScope s_law_then_right) := ⟨rfl, rfl, rfl, by decide +kernel, rfl, by decide +kernel, by decide +kernel⟩
theorem ok_law_then_right (c : Fx P w K mg base T) : FnG P w K mg base (L2.CX P w) 12 (He.ga K "_law_then_right") (spD T K f_law_then_right) := by
  obtain ⟨fd, Fd⟩ := c.d_law_then_right
  have S := sc_law_then_right
  refine fnG_of Fd S (Fd.bindsN fun _ _ _ _ _ _ us hl => match us, hl with | [_, _], _ => rfl) len_law_then_right c.hT ?_
  intro cdv A outer s H E g EW ds Q hg hgd B hf
  have hgd : A.guards = some [] := hgd trivial
  subst hg
  exact ⟨ws_law_then_right EW, ds_cons (ds_setLc (tgt := (.one 6)) (own := [("_law_row", 6)]) B.hT rfl S.nd (di_lst (d_var 1)) (L2.blkOk_by (N := ["_law_rng_here", "_law_rows", "_law_made_here", "_law_due", "_law_whole", "_law_part", "_law_row"]) (sc := defScope s_law_then_right) (own := [("_law_row", 6)]) (by decide +kernel)) (fun s H C cl fp => pg_name S.nd rfl (.inl rfl)) (fun s H C cl fp => dts_nil) (fun s H C cl fp gh => have B := B.blk gh s H _ _ fp; d_fnG (ok_law_made c) hgd (B.room.mono (by decide)) c.g__law_made c.k__law_made B.pass (da_cons (d_var 0) (da_cons (d_var 6) (da_nil)))) rfl) (ds_cons (ds_set S.nd (d_fnG (ok_law_then c) hgd (B.room.mono (by decide)) c.g__law_then c.k__law_then B.pass (da_cons (d_ix (d_var 1) (d_int)) (da_cons (d_ix (d_var 1) (d_int)) (da_nil))))) (ds_cons (ds_set S.nd (d_meth (c := "Move") c.c_Move c.m_Move_then (ok_Move_then c) (B.room.mono (by decide)) B.pass (d_ix (d_var 2) (d_int)) (da_cons (d_ix (d_var 2) (d_int)) (da_nil)))) (ds_cons (ds_if (dt_not (dt_val (d_fnG (ok_law_is_move c) hgd (B.room.mono (by decide)) c.g__law_is_move c.k__law_is_move B.pass (da_cons (d_var 4) (da_cons (d_var 3) (da_nil)))))) (ds_one (ds_ret (d_bl))) (ds_nil)) (ds_cons (ds_for (passes_of rfl) rfl (di_lst (d_op (opd_catL B.hT) (d_op (opd_catL B.hT) (d_fnG (ok_law_near c) hgd (B.room.mono (by decide)) c.g__law_near c.k__law_near B.pass (da_cons (d_var 0) (da_cons (d_ix (d_var 1) (d_int)) (da_nil)))) (d_fnG (ok_law_near c) hgd (B.room.mono (by decide)) c.g__law_near c.k__law_near B.pass (da_cons (d_var 0) (da_cons (d_ix (d_var 1) (d_int)) (da_nil))))) (d_fnG (ok_law_near c) hgd (B.room.mono (by decide)) c.g__law_near c.k__law_near B.pass (da_cons (d_var 0) (da_cons (d_var 3) (da_nil)))))) (fun gh => dg_name S.nd) (fun gh => have B := B.gh gh; ds_one (ds_if (dt_not (dt_val (d_fnG (ok_law_is c) hgd (B.room.mono (by decide)) c.g__law_is c.k__law_is B.pass (da_cons (d_meth (c := "Move") c.c_Move c.m_Move_at (ok_Move_at c) (B.room.mono (by decide)) B.pass (d_var 4) (da_cons (d_fnG (ok_law_real c) hgd (B.room.mono (by decide)) c.g__law_real c.k__law_real B.pass (da_cons (d_var 0) (da_cons (d_var 5) (da_nil)))) (da_nil))) (da_cons (d_fnG (ok_law_at c) hgd (B.room.mono (by decide)) c.g__law_at c.k__law_at B.pass (da_cons (d_ix (d_var 1) (d_int)) (da_cons (d_fnG (ok_law_at c) hgd (B.room.mono (by decide)) c.g__law_at c.k__law_at B.pass (da_cons (d_ix (d_var 1) (d_int)) (da_cons (d_var 5) (da_nil)))) (da_nil)))) (da_nil)))))) (ds_one (ds_ret (d_bl))) (ds_nil)))) (ds_cons (ds_if (dt_ownNe c.ow_Move___eq__ c.ne_Move c.mo_Move (ok_Move___eq__ c) (B.room.mono (by decide)) B.pass (d_meth (c := "Move") c.c_Move c.m_Move_then (ok_Move_then c) (B.room.mono (by decide)) B.pass (d_var 4) (da_cons (d_ix (d_var 2) (d_int)) (da_nil))) (d_meth (c := "Move") c.c_Move c.m_Move_then (ok_Move_then c) (B.room.mono (by decide)) B.pass (d_ix (d_var 2) (d_int)) (da_cons (d_meth (c := "Move") c.c_Move c.m_Move_then (ok_Move_then c) (B.room.mono (by decide)) B.pass (d_ix (d_var 2) (d_int)) (da_cons (d_ix (d_var 2) (d_int)) (da_nil))) (da_nil)))) (ds_one (ds_ret (d_bl))) (ds_nil)) (ds_one (ds_ret (d_and (d_fnG (ok_law_is_move c) hgd (B.room.mono (by decide)) c.g__law_is_move c.k__law_is_move B.pass (da_cons (d_meth (c := "Move") c.c_Move c.m_Move_then (ok_Move_then c) (B.room.mono (by decide)) B.pass (d_var 4) (da_cons (d_ix (d_var 2) (d_int)) (da_nil))) (da_cons (d_fnG (ok_law_then c) hgd (B.room.mono (by decide)) c.g__law_then c.k__law_then B.pass (da_cons (d_var 3) (da_cons (d_ix (d_var 1) (d_int)) (da_nil)))) (da_nil)))) (d_one (d_fnG (ok_law_is_move c) hgd (B.room.mono (by decide)) c.g__law_is_move c.k__law_is_move B.pass (da_cons (d_ix (d_var 2) (d_int)) (da_cons (d_ix (d_var 1) (d_int)) (da_nil))))))))))))), pure_law_then_right ds Q EW hf⟩
/-! _law_done_right -/
theorem sc_law_done_right : FnScope ["_law_rng_here", "_law_row", "_law_turn", "_law_part", "_law_here", "_law_great", "_law_made_here", "_law_due", "_law_many", "_law_told_here", "_law_power"] ["_law_rng_here", "_law_row"] (defScope s_law_done_right) := ⟨rfl, rfl, rfl, by decide +kernel, rfl, by decide +kernel, by decide +kernel⟩
theorem ok_law_done_right (c : Fx P w K mg base T) : FnG P w K mg base (L2.CX P w) 15 (He.ga K "_law_done_right") (spD T K f_law_done_right) := by
  obtain ⟨fd, Fd⟩ := c.d_law_done_right
  have S := sc_law_done_right
  refine fnG_ofT (nm := "_law_done_right") Fd S (Fd.bindsN fun _ _ _ _ _ _ us hl => match us, hl with | [_, _], _ => rfl) len_law_done_right c.hT ?_
  intro A outer s H E g EW ds Q hg hgd B hf
  subst hg
  exact ⟨ws_law_done_right EW, ds_cons (ds_asg (d_tup B.hT (da_cons (d_fnG (ok_law_made c) hgd (B.room.mono (by decide)) c.g__law_made c.k__law_made B.pass (da_cons (d_var 0) (da_cons (d_var 1) (da_nil)))) (da_cons (d_var 1) (da_cons (d_op od_add (d_int) (d_fn (ok_law_draw c) (B.room.mono (by decide)) c.g__law_draw c.k__law_draw B.pass (da_cons (d_var 0) (da_cons (d_int) (da_nil))))) (da_nil))))) (dg_tup rfl (dgs_cons S.nd (dgs_cons S.nd (dgs_cons S.nd dgs_nil))))) (ds_cons (ds_for (passes_of rfl) rfl (di_range1 c.n_range (da_cons (d_op od_sub (d_var 8) (d_int)) (da_nil))) (fun gh => dg_name S.nd) (fun gh => have B := B.gh gh; ds_one (ds_set S.nd (d_fnG (ok_law_then c) hgd (B.room.mono (by decide)) c.g__law_then c.k__law_then B.pass (da_cons (d_var 7) (da_cons (d_var 1) (da_nil))))))) (ds_cons (ds_if ((dw_or (dt_not (dt_val (d_fnG (ok_law_is_move c) hgd (B.room.mono (by decide)) c.g__law_is_move c.k__law_is_move B.pass (da_cons (d_meth (c := "Move") c.c_Move c.m_Move_done (ok_Move_done c) (B.room.mono (by decide)) B.pass (d_var 6) (da_cons (d_var 8) (da_nil))) (da_cons (d_var 7) (da_nil)))))) (dw_or1 (dt_not (dt_val (d_fnG (ok_law_is_move c) hgd (B.room.mono (by decide)) c.g__law_is_move c.k__law_is_move B.pass (da_cons (d_meth (c := "Move") c.c_Move c.m_Move_done (ok_Move_done c) (B.room.mono (by decide)) B.pass (d_var 6) (da_cons (d_int) (da_nil))) (da_cons (d_var 1) (da_nil)))))))).pt) (ds_one (ds_ret (d_bl))) (ds_nil)) (ds_cons (ds_set S.nd (d_fnG (ok_law_choice c) hgd (B.room.mono (by decide)) c.g__law_choice c.k__law_choice B.pass (da_cons (d_var 0) (da_cons (d_fnG (ok_law_near c) hgd (B.room.mono (by decide)) c.g__law_near c.k__law_near B.pass (da_cons (d_var 0) (da_cons (d_var 1) (da_nil)))) (da_nil))))) (ds_cons (ds_set S.nd (d_var 3)) (ds_cons (ds_for (passes_of rfl) rfl (di_range1 c.n_range (da_cons (d_var 8) (da_nil))) (fun gh => dg_name S.nd) (fun gh => have B := B.gh gh; ds_one (ds_set S.nd (d_fnG (ok_law_at c) hgd (B.room.mono (by decide)) c.g__law_at c.k__law_at B.pass (da_cons (d_var 1) (da_cons (d_var 4) (da_nil))))))) (ds_cons (ds_if (dt_not (dt_val (d_fnG (ok_law_is c) hgd (B.room.mono (by decide)) c.g__law_is c.k__law_is B.pass (da_cons (d_meth (c := "Move") c.c_Move c.m_Move_at (ok_Move_at c) (B.room.mono (by decide)) B.pass (d_meth (c := "Move") c.c_Move c.m_Move_done (ok_Move_done c) (B.room.mono (by decide)) B.pass (d_var 6) (da_cons (d_var 8) (da_nil))) (da_cons (d_fnG (ok_law_real c) hgd (B.room.mono (by decide)) c.g__law_real c.k__law_real B.pass (da_cons (d_var 0) (da_cons (d_var 3) (da_nil)))) (da_nil))) (da_cons (d_var 4) (da_nil)))))) (ds_one (ds_ret (d_bl))) (ds_nil)) (ds_cons (ds_par2' rfl S.nd (da_cons (d_var 1) (da_cons (d_op od_add (d_int) (d_fn (ok_law_draw c) (B.room.mono (by decide)) c.g__law_draw c.k__law_draw B.pass (da_cons (d_var 0) (da_cons (d_int) (da_nil))))) (da_nil))) rfl) (ds_cons (ds_for (passes_of rfl) rfl (di_range1 c.n_range (da_cons (d_op od_sub (d_var 8) (d_int)) (da_nil))) (fun gh => dg_name S.nd) (fun gh => have B := B.gh gh; ds_one (ds_set S.nd (d_fnG (ok_law_then c) hgd (B.room.mono (by decide)) c.g__law_then c.k__law_then B.pass (da_cons (d_var 7) (da_cons (d_var 1) (da_nil))))))) (ds_cons (ds_if (dt_not (dt_val (d_fnG (ok_law_is_move c) hgd (B.room.mono (by decide)) c.g__law_is_move c.k__law_is_move B.pass (da_cons (d_meth (c := "Move") c.c_Move c.m_Move_done (ok_Move_done c) (B.room.mono (by decide)) B.pass (d_var 6) (da_cons (d_var 8) (da_nil))) (da_cons (d_var 7) (da_nil)))))) (ds_one (ds_ret (d_bl))) (ds_nil)) (ds_cons (ds_if (dt_cmp od_gt (d_ix (d_var 1) (d_int)) (d_int)) (ds_cons (ds_par2' rfl S.nd (da_cons (d_lst B.hT (da_cons (d_tl c rfl "_law_done_right" (k := 12) rfl rfl (by decide) hgd (B.room.mono (by decide)) (LamX.lamS_by (sc := defScope s_law_done_right) (by decide +kernel)) rfl (fun _ _ _ _ _ => rfl) (fun A outer s H E f c2 g2 EW hT2 B => by obtain ⟨T2, rg2, M2, H2, gh2⟩ := g2; dsimp only at hT2; subst hT2; exact d_meth (c := "Move") c.c_Move c.m_Move_done (ok_Move_done c) (B.room.mono (by decide)) B.pass (d_var 6) (da_cons (d_int) (da_nil)))) (da_cons (d_tl c rfl "_law_done_right" (k := 12) rfl rfl (by decide) hgd (B.room.mono (by decide)) (LamX.lamS_by (sc := defScope s_law_done_right) (by decide +kernel)) rfl (fun _ _ _ _ _ => rfl) (fun A outer s H E f c2 g2 EW hT2 B => by obtain ⟨T2, rg2, M2, H2, gh2⟩ := g2; dsimp only at hT2; subst hT2; exact d_meth (c := "Move") c.c_Move c.m_Move_done (ok_Move_done c) (B.room.mono (by decide)) B.pass (d_var 6) (da_cons (d_op od_pow (d_int) (d_int)) (da_nil)))) (da_nil)))) (da_cons (d_int) (da_nil))) rfl) (ds_cons (ds_for (passes_of rfl) rfl (di_range1 c.n_range (da_cons (d_int) (da_nil))) (fun gh => dg_name S.nd) (fun gh => have B := B.gh gh; ds_one (ds_set S.nd (d_op od_mul (d_var 10) (d_ix (d_var 1) (d_int)))))) (ds_one (ds_ret (d_and (d_cmp (opd_eqDat (by have := B.room.un; show _ < _; omega)) (d_var 9) (d_op (opd_rep B.hT) (d_lst B.hT (da_cons (d_lst B.hT (da_cons (d_str) (da_cons (d_str) (da_cons (d_int) (da_nil))))) (da_nil))) (d_int))) (d_one (d_cmp (od_eqI (by have := B.room.un; show _ < _; omega)) (d_prop (propOk c.p_Move_divisor) (B.room.mono (by decide)) (d_meth (c := "Move") c.c_Move c.m_Move_done (ok_Move_done c) (B.room.mono (by decide)) B.pass (d_var 6) (da_cons (d_int) (da_nil)))) (d_var 10)))))))) (ds_nil)) (ds_cons (ds_set S.nd (d_fnG (ok_law_choice c) hgd (B.room.mono (by decide)) c.g__law_choice c.k__law_choice B.pass (da_cons (d_var 0) (da_cons (d_lst B.hT (da_cons (d_int) (da_cons (d_int) (da_cons (d_op od_pow (d_int) (d_int)) (da_cons (d_op od_pow (d_int) (d_int)) (da_cons (d_op od_sub (d_op od_pow (d_int) (d_int)) (d_int)) (da_cons (d_op od_add (d_int) (d_fn (ok_law_draw c) (B.room.mono (by decide)) c.g__law_draw c.k__law_draw B.pass (da_cons (d_var 0) (da_cons (d_op od_pow (d_int) (d_int)) (da_nil))))) (da_nil)))))))) (da_nil))))) (ds_cons (ds_if (dt_not (dt_val (d_fnG (ok_law_is_move c) hgd (B.room.mono (by decide)) c.g__law_is_move c.k__law_is_move B.pass (da_cons (d_meth (c := "Move") c.c_Move c.m_Move_done (ok_Move_done c) (B.room.mono (by decide)) B.pass (d_var 6) (da_cons (d_var 5) (da_nil))) (da_cons (d_fnG (ok_law_raised c) hgd (B.room.mono (by decide)) c.g__law_raised c.k__law_raised B.pass (da_cons (d_var 1) (da_cons (d_var 5) (da_nil)))) (da_nil)))))) (ds_one (ds_ret (d_bl))) (ds_nil)) (ds_one (ds_ret (d_orv (d_cmp (od_eqI (by have := B.room.un; show _ < _; omega)) (d_var 5) (d_op od_pow (d_int) (d_int))) (d_one (d_ownEq c.ow_Move___eq__ (ok_Move___eq__ c) (B.room.mono (by decide)) B.pass (d_meth (c := "Move") c.c_Move c.m_Move_then (ok_Move_then c) (B.room.mono (by decide)) B.pass (d_meth (c := "Move") c.c_Move c.m_Move_done (ok_Move_done c) (B.room.mono (by decide)) B.pass (d_var 6) (da_cons (d_var 5) (da_nil))) (da_cons (d_var 6) (da_nil))) (d_meth (c := "Move") c.c_Move c.m_Move_done (ok_Move_done c) (B.room.mono (by decide)) B.pass (d_var 6) (da_cons (d_op od_add (d_var 5) (d_int)) (da_nil)))))))))))))))))))), pure_law_done_right ds Q EW hf⟩
/-! _law_refused_right -/
theorem sc_law_refused_right : FnScope ["_law_rng_here", "_law_row", "_law_made_here", "_law_odd", "_law_thing"] ["_law_rng_here", "_law_row"] (defScope s_law_refused_right) := ⟨rfl, rfl, rfl, by decide +kernel, rfl, by decide +kernel, by decide +kernel⟩
theorem ok_law_refused_right (c : Fx P w K mg base T) : FnG P w K mg base (L2.CX P w) 15 (He.ga K "_law_refused_right") (spD T K f_law_refused_right) := by
  obtain ⟨fd, Fd⟩ := c.d_law_refused_right
  have S := sc_law_refused_right
  refine fnG_ofT (nm := "_law_refused_right") Fd S (Fd.bindsN fun _ _ _ _ _ _ us hl => match us, hl with | [_, _], _ => rfl) len_law_refused_right c.hT ?_
  intro A outer s H E g EW ds Q hg hgd B hf
  subst hg
  exact ⟨ws_law_refused_right EW, ds_cons (ds_set S.nd (d_fnG (ok_law_made c) hgd (B.room.mono (by decide)) c.g__law_made c.k__law_made B.pass (da_cons (d_var 0) (da_cons (d_var 1) (da_nil))))) (ds_cons (ds_set S.nd (d_fnG (ok_law_choice c) hgd (B.room.mono (by decide)) c.g__law_choice c.k__law_choice B.pass (da_cons (d_var 0) (da_cons (d_lst B.hT (da_cons (d_non) (da_cons (d_bl) (da_cons (d_bl) (da_cons (d_int) (da_cons (d_un und_neg (d_int)) (da_cons (d_str) (da_cons (d_lst B.hT (da_nil)) (da_cons (d_mk B.hT c.mk_Ratio (ok_Ratio___init___1 c) (B.room.mono (by decide)) c.g_Ratio B.pass (da_cons (d_int) (da_nil))) (da_cons (d_mk B.hT c.mk_Ratio (ok_Ratio___init___1 c) (B.room.mono (by decide)) c.g_Ratio B.pass (da_cons (d_int) (da_nil))) (da_cons (d_tup B.hT (da_cons (d_int) (da_nil))) (da_cons (d_dct0 B.hT) (da_nil))))))))))))) (da_nil))))) (ds_cons (ds_set S.nd (d_fnG (ok_law_choice c) hgd (B.room.mono (by decide)) c.g__law_choice c.k__law_choice B.pass (da_cons (d_var 0) (da_cons (d_lst B.hT (da_cons (d_non) (da_cons (d_int) (da_cons (d_str) (da_cons (d_lst B.hT (da_nil)) (da_cons (d_dct0 B.hT) (da_cons (d_tup B.hT (da_cons (d_int) (da_cons (d_int) (da_cons (d_int) (da_cons (d_int) (da_nil)))))) (da_nil)))))))) (da_nil))))) (ds_cons (ds_if (dt_cmp (opd_neDat (by have := B.room.un; show _ < _; omega)) (d_tl c rfl "_law_refused_right" (k := 12) rfl rfl (by decide) hgd (B.room.mono (by decide)) (LamX.lamS_by (sc := defScope s_law_refused_right) (by decide +kernel)) rfl (fun _ _ _ _ _ => rfl) (fun A outer s H E f c2 g2 EW hT2 B => by obtain ⟨T2, rg2, M2, H2, gh2⟩ := g2; dsimp only at hT2; subst hT2; exact d_meth (c := "Move") c.c_Move c.m_Move_done (ok_Move_done c) (B.room.mono (by decide)) B.pass (d_var 2) (da_cons (d_var 3) (da_nil)))) (d_lst B.hT (da_cons (d_str) (da_cons (d_b (cd_reprA hgd (by have := B.room.un; show _ < _; omega) (by have := B.room.dp; show _ < _; omega) c.repK) c.n_repr rfl (da_cons (d_var 3) (da_nil))) (da_nil))))) (ds_one (ds_ret (d_bl))) (ds_nil)) (ds_one (ds_ret (d_and (d_cmp (opd_eqDat (by have := B.room.un; show _ < _; omega)) (d_tl c rfl "_law_refused_right" (k := 11) rfl rfl (by decide) hgd (B.room.mono (by decide)) (LamX.lamS_by (sc := defScope s_law_refused_right) (by decide +kernel)) rfl (fun _ _ _ _ _ => rfl) (fun A outer s H E f c2 g2 EW hT2 B => by obtain ⟨T2, rg2, M2, H2, gh2⟩ := g2; dsimp only at hT2; subst hT2; exact d_meth (c := "Move") c.c_Move c.m_Move_then (ok_Move_then c) (B.room.mono (by decide)) B.pass (d_var 2) (da_cons (d_var 4) (da_nil)))) (d_lst B.hT (da_cons (d_str) (da_cons (d_str) (da_nil))))) (d_one (d_fnG (ok_law_is_move c) hgd (B.room.mono (by decide)) c.g__law_is_move c.k__law_is_move B.pass (da_cons (d_var 2) (da_cons (d_var 1) (da_nil))))))))))), pure_law_refused_right ds Q EW hf⟩
/-! _law_right -/
theorem sc_law_right : FnScope ["_law_rng_here", "_law_rows", "_law_flat", "_law_turn", "_law_row"] ["_law_rng_here"] (defScope s_law_right) := ⟨rfl, rfl, rfl, by decide +kernel, rfl, by decide +kernel, by decide +kernel⟩
theorem ok_law_right (c : Fx P w K mg base T) : FnG P w K mg base (L2.CX P w) 16 (He.ga K "_law_right") (spD T K f_law_right) := by
  obtain ⟨fd, Fd⟩ := c.d_law_right
  have S := sc_law_right
  refine fnG_of Fd S (Fd.bindsN fun _ _ _ _ _ _ us hl => match us, hl with | [_], _ => rfl) len_law_right c.hT ?_
  intro cdv A outer s H E g EW ds Q hg hgd B hf
  have hgd : A.guards = some [] := hgd trivial
  subst hg
  exact ⟨ws_law_right EW, ds_cons (ds_setLc (tgt := (.one 3)) (own := [("_law_turn", 3)]) B.hT rfl S.nd (di_range1 c.n_range (da_cons (d_int) (da_nil))) (L2.blkOk_by (N := ["_law_rng_here", "_law_rows", "_law_flat", "_law_turn", "_law_row"]) (sc := defScope s_law_right) (own := [("_law_turn", 3)]) (by decide +kernel)) (fun s H C cl fp => pg_name S.nd rfl (.inl rfl)) (fun s H C cl fp => dts_nil) (fun s H C cl fp gh => have B := B.blk gh s H _ _ fp; d_fnG (ok_law_move c) hgd (B.room.mono (by decide)) c.g__law_move c.k__law_move B.pass (da_cons (d_var 0) (da_nil))) rfl) (ds_cons (ds_if ((dw_or (dt_not (dt_val (d_fnG (ok_law_then_right c) hgd (B.room.mono (by decide)) c.g__law_then_right c.k__law_then_right B.pass (da_cons (d_var 0) (da_cons (d_var 1) (da_nil)))))) (dw_or1 (dt_not (dt_val (d_fnG (ok_law_then_right c) hgd (B.room.mono (by decide)) c.g__law_then_right c.k__law_then_right B.pass (da_cons (d_var 0) (da_cons (d_lst B.hT (da_cons (d_ix (d_var 1) (d_int)) (da_cons (d_ix (d_var 1) (d_int)) (da_cons (d_ix (d_var 1) (d_int)) (da_nil))))) (da_nil)))))))).pt) (ds_one (ds_ret (d_bl))) (ds_nil)) (ds_cons (ds_set S.nd (d_op (opd_catT B.hT) (d_tup B.hT (da_cons (d_int) (da_nil))) (d_sl (wl := (some (wC (.int 1)))) (wh := none) B.hT (d_ix (d_var 1) (d_int)) (d_int) trivial))) (ds_one (ds_ret (d_and (d_b (cd_all rfl) c.n_all rfl (da_cons (d_lc (tgt := (.one 4)) (own := [("_law_row", 4)]) B.hT rfl S.nd (di_lst (d_op (opd_catL B.hT) (d_var 1) (d_lst B.hT (da_cons (d_var 2) (da_nil))))) (L2.blkOk_by (N := ["_law_rng_here", "_law_rows", "_law_flat", "_law_turn", "_law_row"]) (sc := defScope s_law_right) (own := [("_law_row", 4)]) (by decide +kernel)) (fun s H C cl fp => pg_name S.nd rfl (.inl rfl)) (fun s H C cl fp => dts_nil) (fun s H C cl fp gh => have B := B.blk gh s H _ _ fp; d_fnG (ok_law_done_right c) hgd (B.room.mono (by decide)) c.g__law_done_right c.k__law_done_right B.pass (da_cons (d_var 0) (da_cons (d_var 4) (da_nil))))) (da_nil))) (d_one (d_fnG (ok_law_refused_right c) hgd (B.room.mono (by decide)) c.g__law_refused_right c.k__law_refused_right B.pass (da_cons (d_var 0) (da_cons (d_ix (d_var 1) (d_int)) (da_nil)))))))))), pure_law_right ds Q EW hf⟩
end
end DL
namespace DL
open PySem PySem.Spec PyProof.Rows L2
/-! ### the law's frame: rng's making, the law itself -/
theorem pe_fnG {X : Cx} {CX : CXT} {k : Nat} {fa : Addr} {sp : Sp} {E : XK} {t : TA} {x : Str} {e : Expr} {es : List Expr} {p pos : Pos} (F : FnG X.prog X.w X.K X.mg X.base CX k fa sp) (hgd : X.A.guards = some []) (hr : Room k X.A) (hm : X.mg x = some (.ref fa)) (hk : PySem.W.keepIn X.K (.ref fa) = true) (hx : Passes CX X E) (ha : PA X (e :: es) t) (hg : Gl X x := by rfl)
    (hdb : (x == ("__debug__" : Str)) = false := by decide) (he : starEach (e :: es) X.env = (false, eval e X.env) :: starEach es X.env := by rfl) (hpl : (backTo pos (starEach es X.env)).any (·.1) = false := by rfl) :
    PE X (.Call (.Name x p) (e :: es) [] pos) (fun σ H Q => t σ H fun vs H1 => sp vs H1 Q E) := ⟨fun pins s σ H Q I h => by
  refine wpAny_Call_Name_kw (ld_glob I hg hm (PySem.W.callWith_K (h₀ := X.base) I.ok.mod.kin hk (thn (ha.run pos pins s σ H _ I h) fun us s1 z => ?_) he hpl) hdb)
  obtain ⟨vs, H1, I1, r, q⟩ := z
  exact ⟨I1.kIn, run_fnG F hgd hr hx I1 r q⟩⟩
def spRng (K : PySem.W.Frag) : Sp := fun vs H Q _ => ∃ (a : Addr) (ns : List Int) (k : Int), vs = [.ref a, .int k] ∧ SqL K H a (ns.map V.int) ∧ 0 ≤ k ∧ k < 100 ∧ ∀ (p : Addr) (x y : Int), H p = none → 0 ≤ x → Q (.ref p) (upd H p (.lst [.int x, .int y]))
abbrev rLenS (K : PySem.W.Frag) : List V → Hp → VK → Prop := fun xs H Q => ∃ p vs, xs = [V.ref p] ∧ (SqL K H p vs ∨ SqT K H p vs) ∧ Q (.int vs.length) H
abbrev rAbs : List V → Hp → VK → Prop := fun xs H Q => ∃ i, xs = [V.int i] ∧ Q (.int (if i < 0 then -i else i)) H
abbrev rMax : List V → Hp → VK → Prop := fun xs H Q => ∃ i j, xs = [V.int i, V.int j] ∧ Q (.int (if j > i then j else i)) H
abbrev rMin : List V → Hp → VK → Prop := fun xs H Q => ∃ i j, xs = [V.int i, V.int j] ∧ Q (.int (if j < i then j else i)) H
abbrev rLt : R2 := rI0 fun i j => .bl (decide (i < j))
abbrev rSb : R2 := rI0 fun i j => .int (i - j)
abbrev rPw : R2 := rI CPow fun i j => .int (i ^ j.toNat)
def t_rng (K : PySem.W.Frag) : TS := tSeq (tAsg (tIf (tTest (tOp rLt (tVar 1) (tCB (rLenS K) (tCons (tVar 0) tNil)))) (tCB rAbs (tCons (tOp (rIxL K) (tVar 0) (tVar 1)) tNil)) (tOp rAd (tOp rMul (tC (.int 11)) (tVar 1)) (tC (.int 4)))) (gName 2))
  (tRet (tLst (tCons (tCB rMax (tCons (tC (.int 0)) (tCons (tOp rSb (tVar 2) (tOp rPw (tC (.int 10)) (tC (.int 18)))) tNil))) (tCons (tOp rAd (tOp rMod (tCB rTyI (tCons (tOp rAd (tOp rAd (tOp rMul (tOp rMod (tCB rTyI (tCons (tVar 2) tNil)) (tC (.int 2147483543))) (tC (.int 39373))) (tOp rMul (tC (.int 52361)) (tVar 1))) (tC (.int 29))) tNil)) (tC (.int 2147483629))) (tC (.int 1))) tNil))))
theorem pure_rng {K : PySem.W.Frag} (vs : List V) (H : Hp) (Q : VK) (E : XK) (h : spRng K vs H Q E) : t_rng K { nx := fun _ H' => Q .non H', rt := Q } (L2.start ["_law_script", "_law_spot", "_law_cell"] vs) H := by
  obtain ⟨a, ns, k, rfl, hS, k0, k1, hQ⟩ := h
  have rest : ∀ z : Int, (tRet (tLst (tCons (tCB rMax (tCons (tC (.int 0)) (tCons (tOp rSb (tVar 2) (tOp rPw (tC (.int 10)) (tC (.int 18)))) tNil))) (tCons (tOp rAd (tOp rMod (tCB rTyI (tCons (tOp rAd (tOp rAd (tOp rMul (tOp rMod (tCB rTyI (tCons (tVar 2) tNil)) (tC (.int 2147483543))) (tC (.int 39373))) (tOp rMul (tC (.int 52361)) (tVar 1))) (tC (.int 29))) tNil)) (tC (.int 2147483629))) (tC (.int 1))) tNil)))) { nx := fun _ H' => Q .non H', rt := Q } ([some (.ref a), some (.int k), some (.int z)] : L2.St) H := fun z => by
    refine ⟨.int z, rfl, _, _, rfl, rfl, ⟨by decide, by decide, by decide⟩, _, _, rfl, rfl, _, _, rfl, ?_⟩
    refine ⟨.int z, rfl, .inl ⟨_, rfl, ?_⟩⟩
    have m0 := Int.emod_nonneg z (show (2147483543 : Int) ≠ 0 by decide)
    refine ⟨_, _, rfl, rfl, (show (0 : Int) < 2147483543 by decide), _, _, rfl, rfl, .inr (by decide), .int k, rfl, _, _, rfl, rfl, .inl (by decide), _, _, rfl, rfl, _, _, rfl, rfl, .inl ⟨_, rfl, ?_⟩⟩
    refine ⟨_, _, rfl, rfl, (show (0 : Int) < 2147483629 by decide), _, _, rfl, rfl, ?_⟩
    refine ⟨by rw [sizeLine_eq]; exact (by decide : 2 ≤ 16777216), fun p hp => hQ p _ _ hp ?_⟩
    show 0 ≤ (if z - 10 ^ 18 > 0 then z - 10 ^ 18 else 0)
    split <;> omega
  refine ⟨.int k, rfl, .ref a, rfl, a, ns.map V.int, rfl, .inl hS, _, _, rfl, rfl, _, rfl, ?_⟩
  rw [List.length_map]
  by_cases hk : k < (ns.length : Int)
  · rw [decide_eq_true hk]
    refine iteT ?_
    obtain ⟨j, rfl⟩ := Int.eq_ofNat_of_zero_le k0
    have hj : j < ns.length := by omega
    refine ⟨.ref a, rfl, .int (j : Int), rfl, a, ns.map V.int, _, .int ns[j], rfl, rfl, hS, ?_, _, rfl, ?_⟩
    · unfold atI ixN
      simp [hj]
    · exact rest _
  · rw [decide_eq_false hk]
    refine iteF ?_
    exact ⟨.int k, rfl, _, _, rfl, rfl, .inl (by decide), _, _, rfl, rfl, rest _⟩
end DL
namespace DL
open PySem PySem.Spec PyProof.Rows L2
def spLaw (T : Hp → Prop) (K : PySem.W.Frag) : Sp := fun vs H Q _ => ∃ (a : Addr) (ns : List Int), vs = [.ref a] ∧ SqL K H a (ns.map V.int) ∧ ns.length ≤ 100 ∧ T H ∧ ∀ H', Q (.bl true) H'
def tNo : XK := fun _ _ _ => False
def t_law (T : Hp → Prop) (K : PySem.W.Frag) (f : F) : TS := tRet (tCB (rAll K) (tCons (tLc (iRng1 (tCons (tCB rMax (tCons (tC (.int 1)) (tCons (tCB rMin (tCons (tC (.int 6)) (tCons (tCB (rLenS K) (tCons (tVar 0) tNil)) tNil))) tNil))) tNil)) (gName 1) (fun _ H Q => Q true H)
  (fun σ H Q => (tCons (fun σ H Q => (tCons (tVar 0) (tCons (tVar 1) tNil)) σ H fun vs H1 => spRng K vs H1 Q tNo) tNil) σ H fun vs H1 => spD T K f vs H1 Q tNo) [1]) tNil))
/-- the script is there still, apart from D -/
def ScA (K : PySem.W.Frag) (H : Hp) (a D : Addr) (ns : List Int) : Prop := (a ≠ D ∧ Rd H a (.lst (ns.map V.int))) ∨ SqL K (fun _ => none) a (ns.map V.int)
theorem sqN {K : PySem.W.Frag} {H : Hp} {a : Addr} {xs : List V} (h : SqL K (fun _ => none) a xs) : SqL K H a xs := by
  rcases h with (h | ⟨o, h⟩) | h
  · cases h
  · cases h
  · exact .inr h
theorem ScA.sq {K : PySem.W.Frag} {H : Hp} {a D : Addr} {ns : List Int} (h : ScA K H a D ns) : SqL K H a (ns.map V.int) := h.elim (fun r => .inl r.2) sqN
theorem ScA.keep {K : PySem.W.Frag} {H H' : Hp} {a D : Addr} {ns : List Int} (h : ScA K H a D ns) (k : ∀ o, (∀ ps, o ≠ .tbl ps) → a ≠ D → H a = some o → H' a = some o) : ScA K H' a D ns := by
  rcases h with ⟨n, r | ⟨o, r⟩⟩ | h
  · exact .inl ⟨n, .inl (k _ (fun ps z => nomatch z) n r)⟩
  · exact .inl ⟨n, .inr ⟨o, k _ (fun ps z => nomatch z) n r⟩⟩
  · exact .inr h
theorem ScA.of {K : PySem.W.Frag} {H : Hp} {a D : Addr} {ns : List Int} (h : SqL K H a (ns.map V.int)) (hD : H D = none) : ScA K H a D ns := by
  rcases h with (r | ⟨o, r⟩) | h
  · exact .inl ⟨ne_of_none r hD, .inl r⟩
  · exact .inl ⟨ne_of_none r hD, .inr ⟨o, r⟩⟩
  · exact .inr (.inr h)
theorem pure_law {T : Hp → Prop} {K : PySem.W.Frag} {f : F} (hT : TOk T) (hf : ∀ P R : D → Prop, P (.bl true) → f [.rng] P R) (vs : List V) (H : Hp) (Q : VK) (E : XK) (h : spLaw T K vs H Q E) : t_law T K f { nx := fun _ H' => Q .non H', rt := Q } (L2.start ["_law_script", "_law_k"] vs) H := by
  obtain ⟨a, ns, rfl, hS, hl, hTH, hQ⟩ := h
  refine ⟨.ref a, rfl, a, ns.map V.int, rfl, .inl hS, _, _, rfl, _, _, rfl, ?_⟩
  rw [List.length_map]
  have hn : ∃ n : Nat, (if (if (ns.length : Int) < 6 then (ns.length : Int) else 6) > 1 then (if (ns.length : Int) < 6 then (ns.length : Int) else 6) else 1) = (n : Int) ∧ n ≤ 6 := by
    by_cases h6 : (ns.length : Int) < 6
    · rw [if_pos h6]
      split
      · exact ⟨ns.length, rfl, by omega⟩
      · exact ⟨1, rfl, by decide⟩
    · rw [if_neg h6]
      exact ⟨6, rfl, by decide⟩
  obtain ⟨n, en, hn6⟩ := hn
  rw [en]
  refine ⟨_, rfl, by omega, by omega, fun D hD => ?_⟩
  rw [Int.toNat_natCast]
  have sc0 := (ScA.of hS hD).keep (H' := upd H D (.lst [])) fun o _ nd e => by rw [upd_ne nd]; exact e
  have t0 : T (upd H D (.lst [])) := hT H _ (fun b o e => .inl (by rw [upd_ne (ne_of_none e hD)]; exact e)) hTH
  refine ⟨fun i m H' => m = n - i ∧ i ≤ n ∧ ScA K H' a D ns ∧ T H' ∧ H' D = some (.lst ((List.replicate i true).map V.bl)), ⟨n, rfl, Nat.zero_le _, sc0, t0, upd_same⟩, ?_⟩
  rintro i m H1 ⟨rfl, hi, sc, t1, hD1⟩
  by_cases hlt : i < n
  · refine .inr ⟨hlt, fun H' => i + 1 ≤ n ∧ ScA K H' a D ns ∧ T H' ∧ H' D = some (.lst ((List.replicate (i + 1) true).map V.bl)), fun H' h => ⟨n - (i + 1), by omega, rfl, h⟩, fun x H2 hy => ?_⟩
    obtain ⟨rfl, rfl⟩ := hy
    refine ⟨rfl, iteT ?_⟩
    refine ⟨.ref a, rfl, .int (0 + (i : Int)), rfl, a, ns, _, rfl, sc.sq, by omega, by omega, fun p x y hp x0 => ?_⟩
    have pD : D ≠ p := ne_of_none hD1 hp
    have k2 : ∀ b o, H2 b = some o → upd H2 p (.lst [.int x, .int y]) b = some o := fun b o e => by rw [upd_ne (ne_of_none e hp)]; exact e
    have t2 : T (upd H2 p (.lst [.int x, .int y])) := hT H2 _ (fun b o e => .inl (k2 b o e)) t1
    refine ⟨p, [p], [.rng], fun d => d = .bl true, fun _ => False, List.mem_singleton.mpr rfl, fun b hb => ?_, t2, .cons (.rng ⟨_, upd_same, x, y, rfl, x0⟩) .nil, hf _ _ rfl, fun d hd H3 v e3 r3 => ?_, fun _ z => z.elim⟩
    · rw [List.mem_singleton.mp hb]
      exact ⟨_, upd_same, fun ps z => (nomatch z)⟩
    · subst hd
      have e4 := r3.bl_v
      subst e4
      have D3 : H3 D = some (.lst ((List.replicate i true).map V.bl)) := e3.keep D _ pD (fun ps z => (nomatch z)) (k2 D _ hD1)
      refine ⟨_, D3, by rw [List.length_map, List.length_replicate, sizeLine_eq]; omega, by omega, ?_, ?_, ?_⟩
      · refine sc.keep fun o nt nd e => ?_
        rw [upd_ne nd]
        exact e3.keep a o (ne_of_none e hp) nt (k2 a o e)
      · refine hT H3 _ (fun b o e => ?_) (e3.tab t2)
        by_cases z : b = D
        · rw [z, D3] at e
          cases e
          exact .inr ⟨fun ps z => (nomatch z), fun φ z => (nomatch z)⟩
        · exact .inl (by rw [upd_ne z]; exact e)
      · rw [upd_same, List.replicate_succ', List.map_append]
        rfl
  · have e : i = n := by omega
    subst e
    refine .inl ⟨Nat.le_refl _, D, List.replicate i true, rfl, SqL.of hD1, ?_⟩
    have all1 : (List.replicate i true).all id = true := by
      rw [List.all_eq_true]
      intro x hx
      rw [List.eq_of_mem_replicate hx]
      rfl
    rw [all1]
    exact hQ _
end DL
namespace DL
open PySem PySem.Spec PyProof.Rows L2
section
variable {P : Program} {w : World} {K : PySem.W.Frag} {mg : Str → Option Value} {base : Heap} {T : Hp → Prop}
theorem sc_law_rng : FnScope ["_law_script", "_law_spot", "_law_cell"] ["_law_script", "_law_spot"] (defScope s_law_rng) := ⟨rfl, rfl, rfl, by decide +kernel, rfl, by decide +kernel, by decide +kernel⟩
theorem ok_law_rng (c : Fx P w K mg base T) : FnR P w K mg base (L2.CX P w) 1 (He.ga K "_law_rng") (spRng K) := by
  obtain ⟨fd, Fd⟩ := c.d_law_rng
  have S := sc_law_rng
  have F : FnOk P w K mg base (L2.CX P w) 1 (He.ga K "_law_rng") fd ["_law_script", "_law_spot"] (spRng K) := Fd.ok S (fun vs H Q E h => by
    obtain ⟨a, ns, k, rfl, _⟩ := h
    rfl) fun cdv A outer s H vs Q E hr h => by
    refine ⟨t_rng K, ?_, pure_rng vs H Q E h⟩
    exact pss_cons (ps_asg (pe_ifExp (pt_cmpR op_lt (pv 1) (pe_callB (x := "len") call_len_seq rfl c.n_len rfl (pa_cons (pv 0) pa_nil)) (nomark _)) (pe_callB (x := "abs") call_abs rfl c.n_abs rfl (pa_cons (pe_ix ix_list (pv 0) (pv 1) (fun _ _ => rfl)) pa_nil)) (pe_op op_add (pe_op op_mul pe_int (pv 1)) pe_int)) (pg_name S.nd rfl (.inl rfl)))
      (pss_one (ps_ret (pe_lst (pa_cons (pe_callB (x := "max") (call_max2 rfl) rfl c.n_max rfl (pa_cons pe_int (pa_cons (pe_op op_sub (pv 2) (pe_op op_pow pe_int pe_int)) pa_nil))) (pa_cons (pe_op op_add (pe_op op_mod (pe_callTy (x := "int") call_int1 rfl c.n_int rfl
        (pa_cons (pe_op op_add (pe_op op_add (pe_op op_mul (pe_op op_mod (pe_callTy (x := "int") call_int1 rfl c.n_int rfl (pa_cons (pv 2) pa_nil)) pe_int) pe_int) (pe_op op_mul pe_int (pv 1))) pe_int) pa_nil)) pe_int) pe_int) pa_nil)))))
  exact (F.raw (Fd.bindsN fun _ _ _ _ _ _ us hl => match us, hl with | [_, _], _ => rfl) .nil).imp fun vs H Q E h => by rw [List.append_nil]; exact h
theorem sc_law : FnScope ["_law_script", "_law_k"] ["_law_script"] (defScope s_law) := ⟨rfl, rfl, rfl, by decide +kernel, rfl, by decide +kernel, by decide +kernel⟩
theorem passN {X : Cx} : Passes (L2.CX X.prog X.w) X tNo := passes_call LamX.takes0 fun _ _ _ _ z => z
theorem ok_law {fd : FuncData} (c : Fx P w K mg base T) (Fd : FunD K "law" "law" (defArgs s_law) (defBody s_law) (defScope s_law) [] [] (He.ga K "law") fd) : FnG P w K mg base (L2.CX P w) 17 (He.ga K "law") (spLaw T K) := by
  have S := sc_law
  have hb := Fd.bindsN (ps := ["_law_script"]) fun _ _ _ _ _ _ us hl => match us, hl with | [_], _ => rfl
  obtain ⟨oc, od, dV, kV, doc, pm, an, cdv, ct, osl, rfl, lk, hcd, _, _⟩ := Fd.ex
  intro A outer s H us vs Q E hg hr e0 r h
  have hl : vs.length = (["_law_script"] : List Str).length := by
    obtain ⟨a, ns, rfl, _⟩ := h
    rfl
  have b := hb s us (e0.mod.kin.keeps fun b o e => (e0.bs b o e).1) (by rw [List.append_nil, ← r.length]; exact hl)
  rw [List.append_nil] at b
  refine LamX.run_ofS lk hcd S hr e0 b r hl fun hr' => ⟨t_law T K f_law_right, ?_, pure_law c.hT (fun P R k => by unfold f_law_right; exact ⟨(), rfl, k⟩) vs H Q E h⟩
  refine pss_one (ps_ret (pe_callB (x := "all") (cr_all rfl) rfl c.n_all rfl (pa_cons (pe_lc (own := [("_law_k", 1)]) rfl S.nd (pi_range1 rfl c.n_range (pa_cons (pe_callB (x := "max") (call_max2 rfl) rfl c.n_max rfl (pa_cons pe_int (pa_cons (pe_callB (x := "min") (call_min2 rfl) rfl c.n_min rfl (pa_cons pe_int (pa_cons (pe_callB (x := "len") call_len_seq rfl c.n_len rfl (pa_cons (pv 0) pa_nil)) pa_nil))) pa_nil))) pa_nil))
    (L2.blkOk_by (N := ["_law_script", "_law_k"]) (sc := defScope s_law) (own := [("_law_k", 1)]) (by decide +kernel)) (fun s H C cl fp => pg_name S.nd rfl (.inl rfl)) (fun s H C cl fp => pts_nil) fun s H C cl fp => ?_) pa_nil)))
  exact pe_fnG (k := 16) (ok_law_right c) hg hr' c.g__law_right c.k__law_right passN (pa_cons (pe_fnR (k := 1) (ok_law_rng c) (hr'.mono (by decide)) c.g__law_rng c.k__law_rng passN (pa_cons (pv 0) (pa_cons (pv 1) pa_nil))) pa_nil)
end
end DL
namespace DL
open PySem PySem.Spec PyProof.Rows L2
/-! ### the end of the walk: no repr is under way at the law's call -/
def Tab0 : Obj := { cls := .none, data := .fields #[] }
def startH (tb : List Addr) (on : Bool) (a : Addr) (u : HO) : Hp := fun b => if b ∈ tb then some (.tbl #[]) else if on = true ∧ b = a then some u else none
theorem startH_some {tb : List Addr} {on : Bool} {a b : Addr} {u v : HO} (h : startH tb on a u b = some v) : (b ∈ tb ∧ v = .tbl #[]) ∨ (on = true ∧ b = a ∧ v = u) := by
  unfold startH at h
  split at h
  · rename_i hb
    cases h
    exact .inl ⟨hb, rfl⟩
  · split at h
    · rename_i hb
      cases h
      exact .inr ⟨hb.1, hb.2, rfl⟩
    · cases h
theorem startH_tab {tb : List Addr} {on : Bool} {a b : Addr} {u : HO} (h : b ∈ tb) : startH tb on a u b = some (.tbl #[]) := if_pos h
/-- what the head's heap must show of the tables -/
structure TabsAt (K : PySem.W.Frag) (h : Heap) (cs : List (Addr × Addr)) : Prop where
  obj : ∀ p ∈ cs, h.get? p.2 = some Tab0
  out : ∀ p ∈ cs, K.lookup p.2 = none
  hd : ∀ p ∈ cs, PySem.W.CodeHd h p.1 p.2
theorem law_end {P : Program} {w : World} {K : PySem.W.Frag} {mg mb : Str → Option Value} {k : Nat} {fa a : Addr} {cs : List (Addr × Addr)} {sp : Sp} {s : Shared} {vs : List Value} {ns : List Int}
    (KX : K.In s.heap) (G : s.heap.Ns mainGlobals mg) (B : s.heap.Ns builtinsNs mb) (bb : ∀ x : Str, x ≠ "__name__" → mb x = bootBuiltins x) (lim : s.heap.NoLimit) (gn : s.gens = #[]) (t : TabsAt K s.heap cs)
    (bm : ∃ (m : Addr) (o : Obj), mg "__builtins__" = some (.ref m) ∧ m ≠ builtinsNs ∧ s.heap.get? m = some o ∧ o.cls = .type "module" ∧ o.dict = some builtinsNs ∧ o.data = .plain)
    (oa : s.heap.get? a = some { cls := .type "list", data := .seq vs.toArray }) (ia : IntsAre vs ns) (la : ns.length ≤ sizeLine) (rm : Room k callerA)
    (F : ∀ base : Heap, K.In base → base.Ns mainGlobals mg → (∀ p ∈ cs, LamX.TabB base mg p.1 p.2) → FnG P w K mg base (L2.CX P w) k fa sp)
    (pr : ∀ H : Hp, (∀ p ∈ cs, H p.2 = some (.tbl #[])) → SqL K H a (ns.map V.int) → sp [.ref a] H (fun v _ => v = .bl true) fun _ _ _ => False) :
    codeAny (model P w) callerA (.call (.ref fa) ⟨[.ref a], []⟩) (fun r s' => r = .ok (.ret (.bool true)) ∧ OldK s.heap s'.heap ∧ s'.os = s.os ∧ AllBare s'.gens) s := by
  have rv := vals_ints ia
  have lenV := ia.length
  generalize eo : ({ cls := .type "list", data := .seq vs.toArray } : Obj) = lo at oa
  generalize et : cs.map (·.2) = tb
  have mt : ∀ p ∈ cs, p.2 ∈ tb := fun p hp => by rw [← et]; exact List.mem_map_of_mem hp
  have tO : ∀ b ∈ tb, s.heap.get? b = some Tab0 := fun b hb => by
    rw [← et] at hb
    obtain ⟨p, hp, e⟩ := List.mem_map.mp hb
    rw [← e]
    exact t.obj p hp
  have tK : ∀ b ∈ tb, K.lookup b = none := fun b hb => by
    rw [← et] at hb
    obtain ⟨p, hp, e⟩ := List.mem_map.mp hb
    rw [← e]
    exact t.out p hp
  generalize eH : startH tb (K.lookup a).isNone a (.frz lo (.lst (ns.map V.int))) = H
  have hs : ∀ {b v}, H b = some v → (b ∈ tb ∧ v = .tbl #[]) ∨ (K.lookup a = none ∧ b = a ∧ v = .frz lo (.lst (ns.map V.int))) := fun {b v} h => by
    rw [← eH] at h
    exact (startH_some h).imp id fun z => ⟨Option.isNone_iff_eq_none.mp z.1, z.2⟩
  have ht : ∀ b ∈ tb, H b = some (.tbl #[]) := fun b hb => by rw [← eH]; exact startH_tab hb
  have seen : ∀ {b o}, s.heap.get? b = some o → (∀ xs n, o.data ≠ .seq xs n) → o.data ≠ .fields #[] → H b = none := fun {b o} e n1 n2 => by
    cases q : H b with
    | none => rfl
    | some v =>
      rcases hs q with ⟨hb, _⟩ | ⟨_, hb, _⟩
      · rw [tO b hb] at e
        cases e
        exact (n2 rfl).elim
      · rw [hb, oa, ← eo] at e
        cases e
        exact (n1 _ _ rfl).elim
  have dct : ∀ {b o es ep}, s.heap.get? b = some o → o.data = .dict es ep → H b = none := fun e d => seen e (fun _ _ z => nomatch d.symm.trans z) fun z => nomatch d.symm.trans z
  have nsH : ∀ {b m}, s.heap.Ns b m → (hidT s.heap H).Ns b m := fun ⟨o, es, ep, e, d, r⟩ => ⟨o, es, ep, hidT_get e (dct e d), d, r⟩
  have kH : K.In (hidT s.heap H) := fun b o e => hidT_get (KX b o e) (by
    cases q : H b with
    | none => rfl
    | some v =>
      rcases hs q with ⟨hb, _⟩ | ⟨hn, hb, _⟩
      · rw [tK b hb] at e
        cases e
      · rw [hb, hn] at e
        cases e)
  have md : L2.Mod K mg (hidT s.heap H) := ⟨kH, nsH G, ⟨mb, nsH B, bb⟩, let ⟨mc, h1, h2⟩ := lim; ⟨mc, nsH h1, h2⟩⟩
  have tbs : ∀ p ∈ cs, LamX.TabB (hidT s.heap H) mg p.1 p.2 := fun p hp => by
    have op := t.obj p hp
    refine ⟨?_, ?_, fun z => ?_⟩
    · obtain ⟨o, us, f1, f2, f3, f4, f5, f6, f7, e1, ec, e2, e3, rest⟩ := t.hd p hp
      refine ⟨o, us, f1, f2, f3, f4, f5, f6, f7, hidT_get e1 (seen e1 (fun _ _ z => nomatch e2.symm.trans z) fun z => ?_), ec, e2, e3, rest⟩
      rw [e2] at z
      cases z
      simp at e3
    · obtain ⟨m, o, b1, b2, b3, b4, b5, b6⟩ := bm
      refine ⟨m, o, b1, b2, fun q => ?_, fun q => ?_, hidT_get b3 (seen b3 (fun _ _ z => nomatch b6.symm.trans z) fun z => nomatch b6.symm.trans z), b4, b5, b6⟩
      · obtain ⟨o', es, ep, e, d, _⟩ := G
        rw [q, e] at b3
        cases b3
        rw [d] at b6
        cases b6
      · rw [q, op] at b3
        cases b3
        cases b6
    · obtain ⟨o', es, ep, e, d, _⟩ := G
      rw [z, op] at e
      cases e
      cases d
  have sq : SqL K H a (ns.map V.int) := by
    cases hk : K.lookup a with
    | some o =>
      have e := KX a o hk
      rw [oa] at e
      cases e
      subst eo
      exact .inr ⟨_, vs.toArray, _, hk, rfl, rfl, rfl, by rw [List.size_toArray, lenV]; exact la, by simpa using rv⟩
    | none =>
      refine .inl (.inr ⟨lo, ?_⟩)
      rw [← eH]
      unfold startH
      rw [if_neg (fun z => ?_), if_pos ⟨by rw [hk]; rfl, rfl⟩]
      have q := tO a z
      rw [oa, ← eo] at q
      cases q
  have hok : HOk P w H s.heap := fun b v z => by
    rcases hs z with ⟨hb, rfl⟩ | ⟨_, hb, rfl⟩
    · exact tO b hb
    · rw [hb, ← eo] at *
      exact ⟨oa, by rw [List.length_map]; exact la, vs, _, rv, oa⟩
  have e0 : Env0 P w K mg (hidT s.heap H) callerA [] s H := ⟨rfl, md, fun b o e => of_hidT e, Nat.le_of_eq (hidT_size _ _), trivial, fun b hb => (nomatch hb), hok, .of_eq gn⟩
  refine codeAny_mono (F _ kH (nsH G) tbs callerA [] s H [.ref a] [.ref a] _ _ rfl rm e0 (.cons rfl .nil) (pr H (fun p hp => ht _ (mt p hp)) sq)) fun r s' h => ?_
  match r, h with
  | .error e, h =>
    obtain ⟨_, _, _, _, _, _, _, _, _, _, _, _, z⟩ := h
    exact z.elim
  | .ok .next, h => exact False.elim h
  | .ok .brk, h => exact False.elim h
  | .ok .cont, h => exact False.elim h
  | .ok (.ret u), h =>
    obtain ⟨v, H', os, bare, un, hok', r', q⟩ := h
    have q' : v = .bl true := q
    subst q'
    obtain rfl : u = Value.bool true := r'
    have stay : ∀ b o, b ∉ tb → s.heap.get? b = some o → s'.heap.get? b = some o := fun b o nb e => by
      cases q : H b with
      | none => exact un.keep b o e q (fun z => nomatch z) (fun z => nomatch z)
      | some v =>
        rcases hs q with ⟨hb, _⟩ | ⟨_, _, rfl⟩
        · exact (nb hb).elim
        · have e1 := (hok b _ q).1
          rw [e] at e1
          cases e1
          exact (hok' b _ (un.frzs b _ _ q)).1
    have grew : ∀ b ∈ tb, ∃ more : Array Value, s'.heap.get? b = some { cls := .none, data := .fields more } := fun b hb => by
      obtain ⟨more, z⟩ := un.tbls b #[] (ht b hb)
      exact ⟨_, hok' b _ z⟩
    refine ⟨rfl, ⟨fun b o e => ?_, fun b o e => ?_⟩, os, bare⟩
    · by_cases hb : b ∈ tb
      · obtain ⟨more, hm⟩ := grew b hb
        have op := tO b hb
        rw [op] at e
        cases e
        have hb' := hb
        rw [← et] at hb'
        obtain ⟨p, hp, rfl⟩ := List.mem_map.mp hb'
        exact .inr (.inl ⟨((t.hd p hp).tab op).isCodeTable, rfl, #[], more, rfl, by rw [Array.empty_append]; exact hm⟩)
      · exact .inl (stay b o hb e)
    · by_cases hb : b ∈ tb
      · obtain ⟨more, hm⟩ := grew b hb
        exact ⟨_, hm⟩
      · exact ⟨o, stay b o hb e⟩
/-- what a law's walk gives at the head's heap -/
def LawG (l : PySem.W.OpenLaw) (w : World) (K : PySem.W.Frag) (k n : Nat) (mg : Str → Option Value) (fa : Addr) (h : Heap) : Prop :=
  ∃ (cs : List (Addr × Addr)) (sp : Sp), TabsAt K h cs ∧
    (∀ (H : Hp) (a : Addr) (ns : List Int), ns.length ≤ n → (∀ z ∈ ns, Builtin.Int.intBits z ≤ 1048576) → (∀ p ∈ cs, H p.2 = some (.tbl #[])) → SqL K H a (ns.map V.int) → sp [.ref a] H (fun v _ => v = .bl true) fun _ _ _ => False) ∧
    ∀ base : Heap, K.In base → base.Ns mainGlobals mg → (∀ p ∈ cs, LamX.TabB base mg p.1 p.2) → FnG l.prog w K mg base (L2.CX l.prog w) k fa sp
theorem walk_ofG {l : PySem.W.OpenLaw} {n k : Nat} {q : Program} {loose : List Str} {XP : (Str → Option Value) → Heap → Prop} {YP : World → Heap → Prop} {d : DefRec}
    (hn : l.most = some n) (hn2 : n ≤ sizeLine) (hdf : d.params.defaults = []) (hr : Room k callerA)
    (F : ∀ (w : World) (mg : Str → Option Value) (fa : Addr) (h : Heap), YP w h → h.Ns mainGlobals mg → mg d.name = some (.ref fa) → ∃ K : PySem.W.Frag, K.In h ∧ LawG l w K k n mg fa h) :
    PySem.W.WalkO q loose XP YP l.row.toRowW d [] (fun f vs => PySem.call f vs) := by
  refine Att.attach_callB hn hdf fun w s₀ s₁ mg mb fa o pm cd doc a vs ns G Y ho hd hcd hmg hobj hints hlen hbits hg => ?_
  obtain ⟨K, KX, cs, sp, t, hsp, hF⟩ := F w mg fa _ Y G.T.g hmg
  exact law_end KX G.T.g G.T.b G.T.builtins G.T.nolimit hg t G.T.bmain hobj hints (Nat.le_trans hlen hn2) hr hF fun H hH hS => hsp H a ns hlen hbits hH hS
end DL
namespace DL
open PySem PySem.Spec PyProof.Rows L2
/-! ### what the head shows, as a list of tests -/
abbrev Ck : Type := PySem.W.Frag → Bool
abbrev AlF : Type := Bool × List He5.FnW
def obsF (n : Nat) (ck : List Ck) (dn : List He5.DefA) (tf : List He.Defn) (g : Addr → Option Obj) : AlF :=
  ((ck.all fun f => f (He.frT g (He5.asA g n))) && ((dn.all fun d => d.ok (He.frT g (He5.asA g n))) && He.tabsB g tf (He.frT g (He5.asA g n))), dn.map fun d => He5.fnA (He.frT g (He5.asA g n)) (d.at_ (He.frT g (He5.asA g n))))
structure SaysF (ck : List Ck) (dn : List He5.DefA) (tf : List He.Defn) (h : Heap) (K : PySem.W.Frag) : Prop where
  ck : ∀ f ∈ ck, f K = true
  dn : ∀ d ∈ dn, ∃ fd, FunD K d.name d.qual d.params d.body d.scope (d.dvs K) (d.kws K) (d.at_ K) fd
  hd : ∀ p ∈ tf, PySem.W.codeHdIn K (He.cT K p).1 (He.cT K p).2 = true
  out : ∀ p ∈ tf, K.lookup (He.cT K p).2 = none
  obj : ∀ p ∈ tf, h.get? (He.cT K p).2 = some Tab0
theorem saysF_of {n : Nat} {ck : List Ck} {dn : List He5.DefA} {tf : List He.Defn} {h : Heap} (e : obsF n ck dn tf h.get? = (true, dn.map He5.DefA.val)) : SaysF ck dn tf h (He.frT h.get? (He5.asA h.get? n)) := by
  have e1 := congrArg Prod.fst e
  have e2 := congrArg Prod.snd e
  generalize eK : He.frT h.get? (He5.asA h.get? n) = K
  have e1' : ((ck.all fun f => f K) && ((dn.all fun d => d.ok K) && He.tabsB h.get? tf K)) = true := by rw [← eK]; exact e1
  have e2' : (dn.map fun d => He5.fnA K (d.at_ K)) = dn.map He5.DefA.val := by rw [← eK]; exact e2
  obtain ⟨c1, c2⟩ := He.ba e1'
  obtain ⟨c2, c3⟩ := He.ba c2
  have tb : ∀ p ∈ tf, PySem.W.codeHdIn K (He.cT K p).1 (He.cT K p).2 = true ∧ K.lookup (He.cT K p).2 = none ∧ h.get? (He.cT K p).2 = some Tab0 := fun p hp => by
    obtain ⟨a1, a2⟩ := He.ba (List.all_eq_true.mp c3 p hp)
    cases q : h.get? (He.cT K p).2 with
    | none =>
      rw [q] at a2
      cases a2
    | some o =>
      rw [q] at a2
      refine ⟨a1, ?_, by rw [He.emptyTab_eq a2]; rfl⟩
      rw [← eK] at q ⊢
      exact He.frT_none q a2
  refine ⟨fun f hf => List.all_eq_true.mp c1 f hf, fun d hd => ?_, fun p hp => (tb p hp).1, fun p hp => (tb p hp).2.1, fun p hp => (tb p hp).2.2⟩
  exact He5.DefA.funD (List.map_inj_left.mp e2' d hd) (List.all_eq_true.mp c2 d hd)
def hookF (n : Nat) (ck : List Ck) (dn : List He5.DefA) (tf : List He.Defn) : PySem.W.Hook where
  α := AlF
  obs := fun s => obsF n ck dn tf s.heap.get?
  val := fun _ => (true, dn.map He5.DefA.val)
  says := fun _ h => ∃ K : PySem.W.Frag, K.In h ∧ SaysF ck dn tf h K
  of := fun _ _ e => ⟨_, He.frT_in, saysF_of e⟩
  keeps := fun _ _ _ ⟨K, hK, c⟩ k => ⟨K, PySem.W.Frag.In.keeps hK k, ⟨c.ck, c.dn, c.hd, c.out, fun p hp => k _ _ (c.obj p hp)⟩⟩
theorem obsF_eq {n : Nat} {ck : List Ck} {dn : List He5.DefA} {tf : List He.Defn} {g : Addr → Option Obj} {s : Shared} (h : ∀ a, g a = s.heap.get? a) : obsF n ck dn tf g = (hookF n ck dn tf).obs s := by
  have e : g = s.heap.get? := funext h
  rw [e] <;> rfl
theorem SaysF.tabs {ck : List Ck} {dn : List He5.DefA} {tf : List He.Defn} {h : Heap} {K : PySem.W.Frag} (c : SaysF ck dn tf h K) (X : K.In h) : TabsAt K h (tf.map (He.cT K)) := by
  refine ⟨fun p hp => ?_, fun p hp => ?_, fun p hp => ?_⟩
  all_goals
    obtain ⟨q, hq, rfl⟩ := List.mem_map.mp hp
  · exact c.obj q hq
  · exact c.out q hq
  · exact PySem.W.codeHd_of_K X (c.hd q hq)
theorem SaysF.at_ {ck : List Ck} {dn : List He5.DefA} {tf : List He.Defn} {h : Heap} {K : PySem.W.Frag} (c : SaysF ck dn tf h K) (i : Nat) {f : Ck} (e : ck[i]? = some f := by rfl) : f K = true := c.ck f (List.mem_of_getElem? e)
theorem SaysF.def_ {ck : List Ck} {dn : List He5.DefA} {tf : List He.Defn} {h : Heap} {K : PySem.W.Frag} (c : SaysF ck dn tf h K) (i : Nat) {d : He5.DefA} (e : dn[i]? = some d := by rfl) : ∃ fd, FunD K d.name d.qual d.params d.body d.scope (d.dvs K) (d.kws K) (d.at_ K) fd := c.dn d (List.mem_of_getElem? e)
/-! ### tests of one thing -/
section
variable {K : PySem.W.Frag}
def creadB (c : Str) : Ck := fun K => PySem.W.readsIn K (He.ga K c) (.type "type")
theorem creadB_ok {c : Str} (h : creadB c K = true) : ClX.CRead K (He.ga K c) (.type "type") := by
  have hr : PySem.W.readsIn K (He.ga K c) (.type "type") = true := h
  refine ⟨hr, ?_⟩
  unfold PySem.W.readsIn at hr
  simp only [Bool.and_eq_true, beq_iff_eq] at hr
  unfold PySem.W.specialIn
  rw [hr.1.1.1.2, Option.bind_some]
  exact hr.1.1.2
def cmetB (c m : Str) : Ck := fun K => He5.wrapB K (He.ga K c) "classmethod" "classmethod.__get__" m && PySem.W.fnIn K (He5.wf K (He.ga K c) "classmethod" m)
theorem cmetB_ok {c m : Str} (h : cmetB c m K = true) : ClX.CMet K (He.ga K c) (.type "type") m (He.ma K (He.ga K c) m) (He5.wf K (He.ga K c) "classmethod" m) := He5.cmet_of (He.ba h).1 (He.ba h).2
def propB (c x : Str) : Ck := fun K => He.eqO (PySem.W.findIn K (.ref (He.ga K c)) x) (some (some (.ref (He.ma K (He.ga K c) x)))) && (He.eqO (PySem.W.specialIn K (.ref (He.ma K (He.ga K c) x)) "__get__") (some (some (.builtin "property.__get__"))) &&
  (decide (PySem.W.takesIn K (.ref (He.ma K (He.ga K c) x)) = some true) && (match PySem.W.recIn K (He.ma K (He.ga K c) x) "property" with
    | some (.ref _ :: _) => true
    | _ => false)))
theorem propB_ok {c x : Str} (h : propB c x K = true) : ∃ p, PropOf K (He.ga K c) x p (prAt K c x) := by
  obtain ⟨h1, h⟩ := He.ba h
  obtain ⟨h2, h⟩ := He.ba h
  obtain ⟨h3, h4⟩ := He.ba h
  refine ⟨_, He.eqO_ok h1, He.eqO_ok h2, of_decide_eq_true h3, ?_⟩
  unfold prAt
  split at h4
  · rename_i e
    rw [e]
    exact ⟨_, rfl⟩
  · cases h4
def oexB (c : Str) : Ck := fun K => (match K.lookup (He.ga K c) with
    | some ⟨.type t, _, .cls cd, sl⟩ => (match cd.mro, sl.toList with
      | .ref C' :: bm, [_, _, _, _, some (.builtin n), _] => decide (t = "type") && (decide (C' = He.ga K c) && (decide (n = "ValueError.__new__") && (!cd.hasDel && (cd.hasDict && PySem.HandSPX.refsVE bm))))
      | _, _ => false)
    | _ => false) && (He.eqO (PySem.W.findIn K (.ref (He.ga K c)) "__setattr__") (some (some (.builtin "object.__setattr__"))) && (decide (PySem.W.subIn K (.ref (He.ga K c)) (.type "BaseException") = some true) &&
  (decide (PySem.W.typeIn K (.ref (He.ga K c)) = some (.type "type")) && PySem.W.keepIn K (.ref (He.ga K c)))))
theorem oexB_ok {c : Str} (h : oexB c K = true) : OexC K (He.ga K c) := by
  obtain ⟨h1, h⟩ := He.ba h
  obtain ⟨h2, h⟩ := He.ba h
  obtain ⟨h3, h⟩ := He.ba h
  obtain ⟨h4, h5⟩ := He.ba h
  refine ⟨?_, He.eqO_ok h2, of_decide_eq_true h3, of_decide_eq_true h4, h5⟩
  clear h h2 h3 h4 h5
  split at h1
  · rename_i t dd cd sl hl
    split at h1
    · rename_i C' bm k0 k1 k2 k3 n k5 hm hs
      obtain ⟨a1, h1⟩ := He.ba h1
      obtain ⟨a2, h1⟩ := He.ba h1
      obtain ⟨a3, h1⟩ := He.ba h1
      obtain ⟨a4, h1⟩ := He.ba h1
      obtain ⟨a5, a6⟩ := He.ba h1
      obtain ⟨nm, bs, mro, ns, qn, hd, sn, sub, ab, col, del⟩ := cd
      obtain ⟨l⟩ := sl
      dsimp only at hm hs a4 a5
      have b4 : del = false := by cases del <;> first | rfl | cases a4
      subst b4
      subst a5
      subst hm
      subst hs
      rw [of_decide_eq_true a1, of_decide_eq_true a2, of_decide_eq_true a3] at *
      exact ⟨nm, qn, ns, bs, bm, sn, sub, ab, col, dd, k0, k1, k2, k3, k5, hl, a6⟩
    · cases h1
  · cases h1
def iniB (c : Str) : Ck := fun K => He.eqO (PySem.W.findIn K (.ref (He.ga K c)) "__init__") (some (some (.ref (He.ma K (He.ga K c) "__init__")))) && decide (PySem.W.typeIn K (.ref (He.ma K (He.ga K c) "__init__")) = some (.type "function"))
def ownB (c nm : Str) : Ck := fun K => He.eqO (PySem.W.findIn K (.ref (He.ga K c)) nm) (some (some (.ref (He.ma K (He.ga K c) nm)))) && PySem.W.isFn K (.ref (He.ma K (He.ga K c) nm))
theorem ownB_ok {c nm : Str} (h : ownB c nm K = true) : OwnAt K c nm (He.ma K (He.ga K c) nm) := ⟨He.eqO_ok (He.ba h).1, (He.ba h).2⟩
def owniB (c nm rnm : Str) : Ck := fun K => He.eqO (PySem.W.findIn K (.ref (He.ga K c)) rnm) (some none) && ((PySem.W.findIn K (.type "int") nm).isSome && ((PySem.W.findIn K (.type "int") rnm).isSome && decide (PySem.W.subIn K (.type "int") (.ref (He.ga K c)) = some false)))
theorem owniB_ok {c nm rnm : Str} (h : owniB c nm rnm K = true) : OwnI K c nm rnm := by
  obtain ⟨h1, h⟩ := He.ba h
  obtain ⟨h2, h⟩ := He.ba h
  obtain ⟨h3, h4⟩ := He.ba h
  exact ⟨He.eqO_ok h1, Option.isSome_iff_exists.mp h2, Option.isSome_iff_exists.mp h3, of_decide_eq_true h4⟩
def eqB (f : PySem.W.Frag → Option (Option Value)) (v : Option (Option Value)) : Ck := fun K => He.eqO (f K) v
def trB (f : PySem.W.Frag → Option Bool) (b : Bool) : Ck := fun K => decide (f K = some b)
def insB (c : Str) : Ck := fun K => (He.Fa.cls c).ok K && (He.eqO (PySem.W.findIn K (.ref (He.ga K c)) "__class__") (some (some (.builtin "object.__class__"))) && (He.eqO (PySem.W.specialIn K (.builtin "object.__class__") "__get__") (some (some (.builtin "getset_descriptor.__get__"))) &&
  (decide (PySem.W.takesIn K (.builtin "object.__class__") = some true) && decide (PySem.W.mroIn K (He.ga K c) (.type "object") = some true))))
theorem insB_ok {c : Str} (h : insB c K = true) : InsK K c := by
  obtain ⟨h1, h⟩ := He.ba h
  obtain ⟨h2, h⟩ := He.ba h
  obtain ⟨h3, h⟩ := He.ba h
  obtain ⟨h4, h5⟩ := He.ba h
  exact ⟨He.cls_ok h1, He.eqO_ok h2, He.eqO_ok h3, of_decide_eq_true h4, of_decide_eq_true h5⟩
def kitB (ts : List D) (us : List D) (tab : D → D → Option Bool) : Ck := fun K => ts.all fun x => us.all fun c => (match tyOf K x, clOf K c, tab x c with
  | some t, some u, some b => decide (PySem.W.kitOne K t u = some b)
  | _, _, _ => false)
theorem kitB_ok {ts us : List D} {tab : D → D → Option Bool} (h : kitB ts us tab K = true) {x c : D} (hx : x ∈ ts) (hc : c ∈ us) : ∃ t u b, tyOf K x = some t ∧ clOf K c = some u ∧ tab x c = some b ∧ PySem.W.kitOne K t u = some b := by
  have h1 := List.all_eq_true.mp (List.all_eq_true.mp h x hx) c hc
  split at h1
  · rename_i t u b e1 e2 e3
    exact ⟨t, u, b, e1, e2, e3, of_decide_eq_true h1⟩
  · cases h1
def exmB (cs : List Cla) : Ck := fun K => (List.range cs.length).all fun i => (List.range cs.length).all fun j => (match cs[i]?, cs[j]? with
  | some a, some b => decide (PySem.W.exmOne K (.ref (He.ga K a.c)) (.ref (He.ga K b.c)) = some (decide (i = j)))
  | _, _ => true)
theorem exmB_ok {cs : List Cla} (h : exmB cs K = true) (i j : Nat) (a b : Cla) (ea : cs[i]? = some a) (eb : cs[j]? = some b) : PySem.W.exmOne K (.ref (He.ga K a.c)) (.ref (He.ga K b.c)) = some (decide (i = j)) := by
  have hi : i < cs.length := (List.getElem?_eq_some_iff.mp ea).1
  have hj : j < cs.length := (List.getElem?_eq_some_iff.mp eb).1
  have h1 := List.all_eq_true.mp (List.all_eq_true.mp h i (List.mem_range.mpr hi)) j (List.mem_range.mpr hj)
  rw [ea, eb] at h1
  exact of_decide_eq_true h1
end
end DL
namespace DL
open PySem PySem.Spec PyProof.Rows L2
/-! ### isinstance -/
def isiTs : List D := [.non, .bl true, .int 0, .str "", .tup [], .lst [], .dct0, .obj "Ratio" [], .obj "Move" []]
def isiUs : List D := [.ty "int", .ty "bool", .cls "Ratio", .cls "Move"]
theorem isiOk_of {K : PySem.W.Frag} (h : kitB isiTs isiUs isiT K = true) (h1 : InsK K "Ratio") (h2 : InsK K "Move") : IsiOk K isiT := by
  have main : ∀ (x r c : D) (b : Bool), isiT x c = some b → r ∈ isiTs → tyOf K r = tyOf K x → (∀ c, isiT r c = isiT x c) → (∀ cn fs, x = .obj cn fs → InsK K cn) → ∃ t u, tyOf K x = some t ∧ clOf K c = some u ∧ PySem.W.kitOne K t u = some b ∧ ∀ cn fs, x = .obj cn fs → InsK K cn := by
    intro x r c b hb hr ht hi ho
    have hc : c ∈ isiUs := by
      unfold isiT at hb
      cases c with
      | ty n =>
        dsimp only at hb
        split at hb
        · rename_i e; subst e; simp [isiUs]
        · split at hb
          · rename_i e; subst e; simp [isiUs]
          · cases hb
      | cls n =>
        dsimp only at hb
        split at hb
        · rename_i e; subst e; simp [isiUs]
        · split at hb
          · rename_i e; subst e; simp [isiUs]
          · cases hb
      | _ => cases hb
    obtain ⟨t, u, b', e1, e2, e3, e4⟩ := kitB_ok h hr hc
    rw [hi] at e3
    rw [hb] at e3
    cases e3
    exact ⟨t, u, by rw [← ht]; exact e1, e2, e4, ho⟩
  intro x c b hb
  cases x with
  | non => exact main _ .non c b hb (by simp [isiTs]) rfl (fun _ => rfl) (fun _ _ z => nomatch z)
  | bl z => exact main _ (.bl true) c b hb (by simp [isiTs]) rfl (fun c => by cases c <;> rfl) (fun _ _ z => nomatch z)
  | int z => exact main _ (.int 0) c b hb (by simp [isiTs]) rfl (fun c => by cases c <;> rfl) (fun _ _ z => nomatch z)
  | str z => exact main _ (.str "") c b hb (by simp [isiTs]) rfl (fun c => by cases c <;> rfl) (fun _ _ z => nomatch z)
  | tup z => exact main _ (.tup []) c b hb (by simp [isiTs]) rfl (fun c => by cases c <;> rfl) (fun _ _ z => nomatch z)
  | lst z => exact main _ (.lst []) c b hb (by simp [isiTs]) rfl (fun c => by cases c <;> rfl) (fun _ _ z => nomatch z)
  | dct0 => exact main _ .dct0 c b hb (by simp [isiTs]) rfl (fun _ => rfl) (fun _ _ z => nomatch z)
  | obj cn fs =>
    by_cases e1 : cn = "Ratio"
    · subst e1
      exact main _ (.obj "Ratio" []) c b hb (by simp [isiTs]) rfl (fun c => by cases c <;> rfl) (fun _ _ z => by cases z; exact h1)
    · by_cases e2 : cn = "Move"
      · subst e2
        exact main _ (.obj "Move" []) c b hb (by simp [isiTs]) rfl (fun c => by cases c <;> rfl) (fun _ _ z => by cases z; exact h2)
      · exfalso
        have nk : ∀ n, isK (.obj cn fs) n = none := fun n => by
          unfold isK
          dsimp only
          rw [if_neg e1, if_neg e2]
        unfold isiT at hb
        cases c with
        | ty n =>
          dsimp only at hb
          rw [nk, nk] at hb
          split at hb
          · cases hb
          · split at hb <;> cases hb
        | cls n =>
          dsimp only at hb
          rw [nk, nk] at hb
          split at hb
          · cases hb
          · split at hb <;> cases hb
        | _ => cases hb
  | ty n =>
    exfalso
    unfold isiT at hb
    cases c with
    | ty m =>
      dsimp only at hb
      split at hb
      · cases hb
      · split at hb <;> cases hb
    | cls m =>
      dsimp only at hb
      split at hb
      · cases hb
      · split at hb <;> cases hb
    | _ => cases hb
  | cls n =>
    exfalso
    unfold isiT at hb
    cases c with
    | ty m =>
      dsimp only at hb
      split at hb
      · cases hb
      · split at hb <;> cases hb
    | cls m =>
      dsimp only at hb
      split at hb
      · cases hb
      · split at hb <;> cases hb
    | _ => cases hb
  | rng =>
    exfalso
    unfold isiT at hb
    cases c with
    | ty m =>
      dsimp only at hb
      split at hb
      · cases hb
      · split at hb <;> cases hb
    | cls m =>
      dsimp only at hb
      split at hb
      · cases hb
      · split at hb <;> cases hb
    | _ => cases hb
def fa (f : He.Fa) : Ck := fun K => f.ok K
def ckL : List Ck := [fa (.free "int"),
  kitB isiTs isiUs isiT,
  insB "Ratio",
  insB "Move",
  fa (.free "isinstance"),
  fa (.free "bool"),
  fa (.glo "is_integer"),
  fa (.keep "is_integer"),
  fa (.glo "Ratio"),
  fa (.glo "is_number"),
  fa (.keep "is_number"),
  oexB "InvalidNumber",
  iniB "InvalidNumber",
  fa (.noat "InvalidNumber" "value"),
  fa (.glo "InvalidNumber"),
  fa (.free "abs"),
  fa (.cls "Ratio"),
  fa (.noat "Ratio" "own_top"),
  propB "Ratio" "top",
  fa (.noat "Ratio" "own_bottom"),
  propB "Ratio" "bottom",
  fa (.glo "divisor_of"),
  fa (.keep "divisor_of"),
  fa (.glo "require_number"),
  fa (.keep "require_number"),
  fa (.mkr "Ratio"),
  fa (.free "len"),
  creadB "Ratio",
  cmetB "Ratio" "of",
  fa (.glo "is_less"),
  fa (.keep "is_less"),
  fa (.glo "extreme_of"),
  fa (.keep "extreme_of"),
  fa (.glo "Move"),
  oexB "InvalidMove",
  iniB "InvalidMove",
  fa (.noat "InvalidMove" "part"),
  fa (.glo "InvalidMove"),
  fa (.cls "Move"),
  fa (.noat "Move" "own_divisor"),
  fa (.noat "Move" "own_plus"),
  fa (.noat "Move" "own_low"),
  fa (.noat "Move" "own_high"),
  ownB "Ratio" "__add__",
  fun K => PySem.W.selfFirst K (He.ga K "Ratio"),
  fa (.meth "Ratio" "over"),
  cmetB "Ratio" "greatest",
  cmetB "Ratio" "least",
  fa (.meth "Move" "free"),
  fa (.meth "Move" "held"),
  fa (.glo "require_move"),
  fa (.keep "require_move"),
  propB "Move" "plus",
  ownB "Ratio" "__mul__",
  owniB "Ratio" (PySem.dunder Operator.Mult.info.2) (PySem.dunderR Operator.Mult.info.2),
  propB "Move" "divisor",
  fa (.meth "Move" "at"),
  fa (.mkr "Move"),
  oexB "InvalidCount",
  iniB "InvalidCount",
  fa (.noat "InvalidCount" "value"),
  fa (.glo "InvalidCount"),
  fa (.meth "Move" "added"),
  fa (.int "MOST_TIMES" 100),
  oexB "TooMany",
  iniB "TooMany",
  fa (.noat "TooMany" "kind"),
  fa (.noat "TooMany" "limit"),
  fa (.glo "TooMany"),
  fa (.free "range"),
  fa (.meth "Move" "then"),
  ownB "Ratio" "__eq__",
  eqB (fun K => PySem.W.findIn K (.ref (He.ga K "Ratio")) "__ne__") (some (some (.builtin "object.__ne__"))),
  trB (fun K => PySem.W.mroIn K (He.ga K "Ratio") (.type "object")) true,
  fa (.glo "_law_draw"),
  fa (.keep "_law_draw"),
  fa (.glo "_law_plain"),
  fa (.keep "_law_plain"),
  fa (.glo "_law_choice"),
  fa (.keep "_law_choice"),
  fa (.free "repr"),
  fa (.glo "_law_fraction"),
  fa (.keep "_law_fraction"),
  fa (.glo "_law_less"),
  fa (.keep "_law_less"),
  fa (.glo "_law_sum"),
  fa (.keep "_law_sum"),
  fa (.glo "_law_over"),
  fa (.keep "_law_over"),
  fa (.glo "_law_real"),
  fa (.keep "_law_real"),
  fa (.glo "_law_is"),
  fa (.keep "_law_is"),
  propB "Move" "low",
  propB "Move" "high",
  fa (.glo "_law_at"),
  fa (.keep "_law_at"),
  fa (.glo "_law_made"),
  fa (.keep "_law_made"),
  fa (.glo "_law_then"),
  fa (.keep "_law_then"),
  fa (.glo "_law_is_move"),
  fa (.keep "_law_is_move"),
  fa (.glo "_law_near"),
  fa (.keep "_law_near"),
  ownB "Move" "__eq__",
  eqB (fun K => PySem.W.findIn K (.ref (He.ga K "Move")) "__ne__") (some (some (.builtin "object.__ne__"))),
  trB (fun K => PySem.W.mroIn K (He.ga K "Move") (.type "object")) true,
  fa (.meth "Move" "done"),
  fa (.glo "_law_raised"),
  fa (.keep "_law_raised"),
  fa (.glo "_law_move"),
  fa (.keep "_law_move"),
  fa (.glo "_law_then_right"),
  fa (.keep "_law_then_right"),
  fa (.glo "_law_done_right"),
  fa (.keep "_law_done_right"),
  fa (.free "all"),
  fa (.glo "_law_refused_right"),
  fa (.keep "_law_refused_right"),
  fa (.free "divmod"),
  fa (.free "max"),
  fa (.free "min"),
  fa (.glo "_law_rng"),
  fa (.keep "_law_rng"),
  fa (.glo "_law_right"),
  fa (.keep "_law_right"),
  ownB "Ratio" "__repr__",
  fa (.glo "_law_told"),
  fa (.keep "_law_told"),
  exmB clas,
  fun K => xfB K (He.ga K "InvalidMove"),
  fun K => xfB K (He.ga K "InvalidCount"),
  fun K => xfB K (He.ga K "TooMany"),
  fun K => decide ((He.cT K ("_law_done_right", none)).2 ≠ (He.cT K ("_law_refused_right", none)).2),
  fa (.glo "law")]
def dnL : List He5.DefA := [⟨fun K => (He.ga K "is_integer"), "is_integer", "is_integer", defArgs s_is_integer, defBody s_is_integer, defScope s_is_integer, [], []⟩,
  ⟨fun K => (He.ga K "is_number"), "is_number", "is_number", defArgs s_is_number, defBody s_is_number, defScope s_is_number, [], []⟩,
  ⟨fun K => (He.ma K (He.ga K "InvalidNumber") "__init__"), "__init__", "InvalidNumber.__init__", defArgs (meth (top 3) 0), defBody (meth (top 3) 0), defScope (meth (top 3) 0), [], []⟩,
  ⟨fun K => (He.ga K "require_number"), "require_number", "require_number", defArgs s_require_number, defBody s_require_number, defScope s_require_number, [], []⟩,
  ⟨fun K => (He.ga K "divisor_of"), "divisor_of", "divisor_of", defArgs s_divisor_of, defBody s_divisor_of, defScope s_divisor_of, [], []⟩,
  ⟨fun K => (prAt K "Ratio" "top"), "top", "Ratio.top", defArgs (meth (top 15) 4), defBody (meth (top 15) 4), defScope (meth (top 15) 4), [], []⟩,
  ⟨fun K => (prAt K "Ratio" "bottom"), "bottom", "Ratio.bottom", defArgs (meth (top 15) 5), defBody (meth (top 15) 5), defScope (meth (top 15) 5), [], []⟩,
  ⟨fun K => (He.ga K "is_less"), "is_less", "is_less", defArgs s_is_less, defBody s_is_less, defScope s_is_less, [], []⟩,
  ⟨fun K => (He.ma K (He.ga K "Ratio") "__init__"), "__init__", "Ratio.__init__", defArgs s_Ratio___init__, defBody s_Ratio___init__, defScope s_Ratio___init__, [.int 1], []⟩,
  ⟨fun K => (He5.wf K (He.ga K "Ratio") "classmethod" "of"), "of", "Ratio.of", defArgs s_Ratio_of, defBody s_Ratio_of, defScope s_Ratio_of, [], []⟩,
  ⟨fun K => (He.ga K "extreme_of"), "extreme_of", "extreme_of", defArgs s_extreme_of, defBody s_extreme_of, defScope s_extreme_of, [], []⟩,
  ⟨fun K => (He5.wf K (He.ga K "Ratio") "classmethod" "least"), "least", "Ratio.least", defArgs s_Ratio_least, defBody s_Ratio_least, defScope s_Ratio_least, [], []⟩,
  ⟨fun K => (He5.wf K (He.ga K "Ratio") "classmethod" "greatest"), "greatest", "Ratio.greatest", defArgs s_Ratio_greatest, defBody s_Ratio_greatest, defScope s_Ratio_greatest, [], []⟩,
  ⟨fun K => (He.ma K (He.ga K "Ratio") "__add__"), "__add__", "Ratio.__add__", defArgs s_Ratio___add__, defBody s_Ratio___add__, defScope s_Ratio___add__, [], []⟩,
  ⟨fun K => (He.ma K (He.ga K "Ratio") "__mul__"), "__mul__", "Ratio.__mul__", defArgs s_Ratio___mul__, defBody s_Ratio___mul__, defScope s_Ratio___mul__, [], []⟩,
  ⟨fun K => (He.ma K (He.ga K "Ratio") "over"), "over", "Ratio.over", defArgs s_Ratio_over, defBody s_Ratio_over, defScope s_Ratio_over, [], []⟩,
  ⟨fun K => (He.ma K (He.ga K "Ratio") "__eq__"), "__eq__", "Ratio.__eq__", defArgs s_Ratio___eq__, defBody s_Ratio___eq__, defScope s_Ratio___eq__, [], []⟩,
  ⟨fun K => (He.ma K (He.ga K "InvalidMove") "__init__"), "__init__", "InvalidMove.__init__", defArgs (meth (top 4) 0), defBody (meth (top 4) 0), defScope (meth (top 4) 0), [], []⟩,
  ⟨fun K => (He.ga K "require_move"), "require_move", "require_move", defArgs s_require_move, defBody s_require_move, defScope s_require_move, [], []⟩,
  ⟨fun K => (He.ma K (He.ga K "Move") "__init__"), "__init__", "Move.__init__", defArgs s_Move___init__, defBody s_Move___init__, defScope s_Move___init__, [], []⟩,
  ⟨fun K => (He.ma K (He.ga K "Move") "free"), "free", "Move.free", defArgs s_Move_free, defBody s_Move_free, defScope s_Move_free, [], []⟩,
  ⟨fun K => (He.ma K (He.ga K "Move") "held"), "held", "Move.held", defArgs s_Move_held, defBody s_Move_held, defScope s_Move_held, [], []⟩,
  ⟨fun K => (He.ma K (He.ga K "Move") "at"), "at", "Move.at", defArgs s_Move_at, defBody s_Move_at, defScope s_Move_at, [], []⟩,
  ⟨fun K => (prAt K "Move" "plus"), "plus", "Move.plus", defArgs (meth (top 20) 6), defBody (meth (top 20) 6), defScope (meth (top 20) 6), [], []⟩,
  ⟨fun K => (prAt K "Move" "divisor"), "divisor", "Move.divisor", defArgs (meth (top 20) 5), defBody (meth (top 20) 5), defScope (meth (top 20) 5), [], []⟩,
  ⟨fun K => (He.ma K (He.ga K "Move") "then"), "then", "Move.then", defArgs s_Move_then, defBody s_Move_then, defScope s_Move_then, [], []⟩,
  ⟨fun K => (He.ma K (He.ga K "Move") "added"), "added", "Move.added", defArgs s_Move_added, defBody s_Move_added, defScope s_Move_added, [], []⟩,
  ⟨fun K => (He.ma K (He.ga K "InvalidCount") "__init__"), "__init__", "InvalidCount.__init__", defArgs (meth (top 5) 0), defBody (meth (top 5) 0), defScope (meth (top 5) 0), [], []⟩,
  ⟨fun K => (He.ma K (He.ga K "TooMany") "__init__"), "__init__", "TooMany.__init__", defArgs (meth (top 6) 0), defBody (meth (top 6) 0), defScope (meth (top 6) 0), [], []⟩,
  ⟨fun K => (He.ma K (He.ga K "Move") "done"), "done", "Move.done", defArgs s_Move_done, defBody s_Move_done, defScope s_Move_done, [], []⟩,
  ⟨fun K => (He.ma K (He.ga K "Move") "__eq__"), "__eq__", "Move.__eq__", defArgs s_Move___eq__, defBody s_Move___eq__, defScope s_Move___eq__, [], []⟩,
  ⟨fun K => (He.ga K "_law_choice"), "_law_choice", "_law_choice", defArgs s_law_choice, defBody s_law_choice, defScope s_law_choice, [], []⟩,
  ⟨fun K => (He.ga K "_law_plain"), "_law_plain", "_law_plain", defArgs s_law_plain, defBody s_law_plain, defScope s_law_plain, [], []⟩,
  ⟨fun K => (He.ga K "_law_sum"), "_law_sum", "_law_sum", defArgs s_law_sum, defBody s_law_sum, defScope s_law_sum, [], []⟩,
  ⟨fun K => (He.ga K "_law_less"), "_law_less", "_law_less", defArgs s_law_less, defBody s_law_less, defScope s_law_less, [], []⟩,
  ⟨fun K => (He.ga K "_law_fraction"), "_law_fraction", "_law_fraction", defArgs s_law_fraction, defBody s_law_fraction, defScope s_law_fraction, [], []⟩,
  ⟨fun K => (He.ga K "_law_real"), "_law_real", "_law_real", defArgs s_law_real, defBody s_law_real, defScope s_law_real, [], []⟩,
  ⟨fun K => (He.ga K "_law_is"), "_law_is", "_law_is", defArgs s_law_is, defBody s_law_is, defScope s_law_is, [], []⟩,
  ⟨fun K => (He.ga K "_law_over"), "_law_over", "_law_over", defArgs s_law_over, defBody s_law_over, defScope s_law_over, [], []⟩,
  ⟨fun K => (He.ga K "_law_move"), "_law_move", "_law_move", defArgs s_law_move, defBody s_law_move, defScope s_law_move, [], []⟩,
  ⟨fun K => (He.ga K "_law_at"), "_law_at", "_law_at", defArgs s_law_at, defBody s_law_at, defScope s_law_at, [], []⟩,
  ⟨fun K => (He.ga K "_law_made"), "_law_made", "_law_made", defArgs s_law_made, defBody s_law_made, defScope s_law_made, [], []⟩,
  ⟨fun K => (prAt K "Move" "low"), "low", "Move.low", defArgs (meth (top 20) 7), defBody (meth (top 20) 7), defScope (meth (top 20) 7), [], []⟩,
  ⟨fun K => (prAt K "Move" "high"), "high", "Move.high", defArgs (meth (top 20) 8), defBody (meth (top 20) 8), defScope (meth (top 20) 8), [], []⟩,
  ⟨fun K => (He.ga K "_law_is_move"), "_law_is_move", "_law_is_move", defArgs s_law_is_move, defBody s_law_is_move, defScope s_law_is_move, [], []⟩,
  ⟨fun K => (He.ga K "_law_near"), "_law_near", "_law_near", defArgs s_law_near, defBody s_law_near, defScope s_law_near, [], []⟩,
  ⟨fun K => (He.ga K "_law_then"), "_law_then", "_law_then", defArgs s_law_then, defBody s_law_then, defScope s_law_then, [], []⟩,
  ⟨fun K => (He.ga K "_law_raised"), "_law_raised", "_law_raised", defArgs s_law_raised, defBody s_law_raised, defScope s_law_raised, [], []⟩,
  ⟨fun K => (He.ga K "_law_then_right"), "_law_then_right", "_law_then_right", defArgs s_law_then_right, defBody s_law_then_right, defScope s_law_then_right, [], []⟩,
  ⟨fun K => (He.ga K "_law_done_right"), "_law_done_right", "_law_done_right", defArgs s_law_done_right, defBody s_law_done_right, defScope s_law_done_right, [], []⟩,
  ⟨fun K => (He.ga K "_law_refused_right"), "_law_refused_right", "_law_refused_right", defArgs s_law_refused_right, defBody s_law_refused_right, defScope s_law_refused_right, [], []⟩,
  ⟨fun K => (He.ga K "_law_right"), "_law_right", "_law_right", defArgs s_law_right, defBody s_law_right, defScope s_law_right, [], []⟩,
  ⟨fun K => (He.ga K "_law_draw"), "_law_draw", "_law_draw", defArgs s_law_draw, defBody s_law_draw, defScope s_law_draw, [], []⟩,
  ⟨fun K => (He.ga K "_law_rng"), "_law_rng", "_law_rng", defArgs s_law_rng, defBody s_law_rng, defScope s_law_rng, [], []⟩,
  ⟨fun K => (He.ma K (He.ga K "Ratio") "__repr__"), "__repr__", "Ratio.__repr__", defArgs (meth (top 15) 15), defBody (meth (top 15) 15), defScope (meth (top 15) 15), [], []⟩,
  ⟨fun K => (He.ga K "_law_told"), "_law_told", "_law_told", defArgs s_law_told, defBody s_law_told, defScope s_law_told, [], []⟩,
  ⟨fun K => (He.ga K "law"), "law", "law", defArgs s_law, defBody s_law, defScope s_law, [], []⟩]
def tfL : List He.Defn := lamOf.map fun x => (x, none)
section
variable {P : Program} {w : World} {K : PySem.W.Frag} {mg : Str → Option Value} {base h : Heap}
theorem hf_n_int (X : K.In h) (G : h.Ns mainGlobals mg) (c : SaysF ckL dnL tfL h K) : mg "int" = none := He.free_ok X G (c.at_ 0)
theorem hf_isi (X : K.In h) (G : h.Ns mainGlobals mg) (c : SaysF ckL dnL tfL h K) : IsiOk K isiT := isiOk_of (c.at_ 1) (insB_ok (c.at_ 2)) (insB_ok (c.at_ 3))
theorem hf_n_isinstance (X : K.In h) (G : h.Ns mainGlobals mg) (c : SaysF ckL dnL tfL h K) : mg "isinstance" = none := He.free_ok X G (c.at_ 4)
theorem hf_n_bool (X : K.In h) (G : h.Ns mainGlobals mg) (c : SaysF ckL dnL tfL h K) : mg "bool" = none := He.free_ok X G (c.at_ 5)
theorem hf_d_is_integer (X : K.In h) (G : h.Ns mainGlobals mg) (c : SaysF ckL dnL tfL h K) : ∃ fd, FunD K "is_integer" "is_integer" (defArgs s_is_integer) (defBody s_is_integer) (defScope s_is_integer) [] [] (He.ga K "is_integer") fd := (c.def_ 0)
theorem hf_g_is_integer (X : K.In h) (G : h.Ns mainGlobals mg) (c : SaysF ckL dnL tfL h K) : mg "is_integer" = some (.ref (He.ga K "is_integer")) := He.glo_ok X G (c.at_ 6)
theorem hf_k_is_integer (X : K.In h) (G : h.Ns mainGlobals mg) (c : SaysF ckL dnL tfL h K) : PySem.W.keepIn K (.ref (He.ga K "is_integer")) = true := He.keep_ok (c.at_ 7)
theorem hf_g_Ratio (X : K.In h) (G : h.Ns mainGlobals mg) (c : SaysF ckL dnL tfL h K) : mg "Ratio" = some (.ref (He.ga K "Ratio")) := He.glo_ok X G (c.at_ 8)
theorem hf_d_is_number (X : K.In h) (G : h.Ns mainGlobals mg) (c : SaysF ckL dnL tfL h K) : ∃ fd, FunD K "is_number" "is_number" (defArgs s_is_number) (defBody s_is_number) (defScope s_is_number) [] [] (He.ga K "is_number") fd := (c.def_ 1)
theorem hf_g_is_number (X : K.In h) (G : h.Ns mainGlobals mg) (c : SaysF ckL dnL tfL h K) : mg "is_number" = some (.ref (He.ga K "is_number")) := He.glo_ok X G (c.at_ 9)
theorem hf_k_is_number (X : K.In h) (G : h.Ns mainGlobals mg) (c : SaysF ckL dnL tfL h K) : PySem.W.keepIn K (.ref (He.ga K "is_number")) = true := He.keep_ok (c.at_ 10)
theorem hf_x_InvalidNumber (X : K.In h) (G : h.Ns mainGlobals mg) (c : SaysF ckL dnL tfL h K) : ∀ X : Cx, X.prog = P → X.w = w → X.K = K → X.mg = mg → X.base = base → ExcD X "InvalidNumber" 1 exm_InvalidNumber := fun X e1 e2 e3 e4 e5 => by
    subst e1 e2 e3 e4 e5
    obtain ⟨fd, F⟩ := (c.def_ 2)
    exact ⟨oexB_ok (c.at_ 11), _, fd, ["self", "value"], He.eqO_ok (He.ba (c.at_ 12)).1, of_decide_eq_true (He.ba (c.at_ 12)).2, exInit1 (oexB_ok (c.at_ 11)) F ⟨rfl, rfl, rfl, by decide +kernel, rfl, by decide +kernel, by decide +kernel⟩ (He.noat_ok (c.at_ 13)) rfl rfl rfl, F.bindsN (ps := ["self", "value"]) fun _ _ _ _ _ _ us hl => match us, hl with | [_, _], _ => rfl⟩
theorem hf_g_InvalidNumber (X : K.In h) (G : h.Ns mainGlobals mg) (c : SaysF ckL dnL tfL h K) : mg "InvalidNumber" = some (.ref (He.ga K "InvalidNumber")) := He.glo_ok X G (c.at_ 14)
theorem hf_d_require_number (X : K.In h) (G : h.Ns mainGlobals mg) (c : SaysF ckL dnL tfL h K) : ∃ fd, FunD K "require_number" "require_number" (defArgs s_require_number) (defBody s_require_number) (defScope s_require_number) [] [] (He.ga K "require_number") fd := (c.def_ 3)
theorem hf_n_abs (X : K.In h) (G : h.Ns mainGlobals mg) (c : SaysF ckL dnL tfL h K) : mg "abs" = none := He.free_ok X G (c.at_ 15)
theorem hf_d_divisor_of (X : K.In h) (G : h.Ns mainGlobals mg) (c : SaysF ckL dnL tfL h K) : ∃ fd, FunD K "divisor_of" "divisor_of" (defArgs s_divisor_of) (defBody s_divisor_of) (defScope s_divisor_of) [] [] (He.ga K "divisor_of") fd := (c.def_ 4)
theorem hf_c_Ratio (X : K.In h) (G : h.Ns mainGlobals mg) (c : SaysF ckL dnL tfL h K) : Cls K (He.ga K "Ratio") := He.cls_ok (c.at_ 16)
theorem hf_no_Ratio_own_top (X : K.In h) (G : h.Ns mainGlobals mg) (c : SaysF ckL dnL tfL h K) : NoAttr K (He.ga K "Ratio") "own_top" := He.noat_ok (c.at_ 17)
theorem hf_p_Ratio_top (X : K.In h) (G : h.Ns mainGlobals mg) (c : SaysF ckL dnL tfL h K) : PropG P w K mg base "Ratio" "top" "own_top" := propG_of (He.cls_ok (c.at_ 16)) (He.noat_ok (c.at_ 17)) (propB_ok (c.at_ 18)) (c.def_ 5) ⟨rfl, rfl, rfl, by decide +kernel, rfl, by decide +kernel, by decide +kernel⟩ rfl (fun _ _ _ _ _ _ us hl => match us, hl with | [_], _ => rfl)
theorem hf_no_Ratio_own_bottom (X : K.In h) (G : h.Ns mainGlobals mg) (c : SaysF ckL dnL tfL h K) : NoAttr K (He.ga K "Ratio") "own_bottom" := He.noat_ok (c.at_ 19)
theorem hf_p_Ratio_bottom (X : K.In h) (G : h.Ns mainGlobals mg) (c : SaysF ckL dnL tfL h K) : PropG P w K mg base "Ratio" "bottom" "own_bottom" := propG_of (He.cls_ok (c.at_ 16)) (He.noat_ok (c.at_ 19)) (propB_ok (c.at_ 20)) (c.def_ 6) ⟨rfl, rfl, rfl, by decide +kernel, rfl, by decide +kernel, by decide +kernel⟩ rfl (fun _ _ _ _ _ _ us hl => match us, hl with | [_], _ => rfl)
theorem hf_d_is_less (X : K.In h) (G : h.Ns mainGlobals mg) (c : SaysF ckL dnL tfL h K) : ∃ fd, FunD K "is_less" "is_less" (defArgs s_is_less) (defBody s_is_less) (defScope s_is_less) [] [] (He.ga K "is_less") fd := (c.def_ 7)
theorem hf_g_divisor_of (X : K.In h) (G : h.Ns mainGlobals mg) (c : SaysF ckL dnL tfL h K) : mg "divisor_of" = some (.ref (He.ga K "divisor_of")) := He.glo_ok X G (c.at_ 21)
theorem hf_k_divisor_of (X : K.In h) (G : h.Ns mainGlobals mg) (c : SaysF ckL dnL tfL h K) : PySem.W.keepIn K (.ref (He.ga K "divisor_of")) = true := He.keep_ok (c.at_ 22)
theorem hf_d_Ratio___init__ (X : K.In h) (G : h.Ns mainGlobals mg) (c : SaysF ckL dnL tfL h K) : ∃ fd, FunD K "__init__" "Ratio.__init__" (defArgs s_Ratio___init__) (defBody s_Ratio___init__) (defScope s_Ratio___init__) [.int 1] [] (He.ma K (He.ga K "Ratio") "__init__") fd := (c.def_ 8)
theorem hf_g_require_number (X : K.In h) (G : h.Ns mainGlobals mg) (c : SaysF ckL dnL tfL h K) : mg "require_number" = some (.ref (He.ga K "require_number")) := He.glo_ok X G (c.at_ 23)
theorem hf_k_require_number (X : K.In h) (G : h.Ns mainGlobals mg) (c : SaysF ckL dnL tfL h K) : PySem.W.keepIn K (.ref (He.ga K "require_number")) = true := He.keep_ok (c.at_ 24)
theorem hf_mk_Ratio (X : K.In h) (G : h.Ns mainGlobals mg) (c : SaysF ckL dnL tfL h K) : Mk K (He.ga K "Ratio") (He.ma K (He.ga K "Ratio") "__init__") := He.mkr_ok (c.at_ 25)
theorem hf_d_Ratio_of (X : K.In h) (G : h.Ns mainGlobals mg) (c : SaysF ckL dnL tfL h K) : ∃ fd, FunD K "of" "Ratio.of" (defArgs s_Ratio_of) (defBody s_Ratio_of) (defScope s_Ratio_of) [] [] (He5.wf K (He.ga K "Ratio") "classmethod" "of") fd := (c.def_ 9)
theorem hf_n_len (X : K.In h) (G : h.Ns mainGlobals mg) (c : SaysF ckL dnL tfL h K) : mg "len" = none := He.free_ok X G (c.at_ 26)
theorem hf_cr_Ratio (X : K.In h) (G : h.Ns mainGlobals mg) (c : SaysF ckL dnL tfL h K) : ClX.CRead K (He.ga K "Ratio") (.type "type") := creadB_ok (c.at_ 27)
theorem hf_cm_Ratio_of (X : K.In h) (G : h.Ns mainGlobals mg) (c : SaysF ckL dnL tfL h K) : ClX.CMet K (He.ga K "Ratio") (.type "type") "of" (He.ma K (He.ga K "Ratio") "of") (He5.wf K (He.ga K "Ratio") "classmethod" "of") := cmetB_ok (c.at_ 28)
theorem hf_g_is_less (X : K.In h) (G : h.Ns mainGlobals mg) (c : SaysF ckL dnL tfL h K) : mg "is_less" = some (.ref (He.ga K "is_less")) := He.glo_ok X G (c.at_ 29)
theorem hf_k_is_less (X : K.In h) (G : h.Ns mainGlobals mg) (c : SaysF ckL dnL tfL h K) : PySem.W.keepIn K (.ref (He.ga K "is_less")) = true := He.keep_ok (c.at_ 30)
theorem hf_d_extreme_of (X : K.In h) (G : h.Ns mainGlobals mg) (c : SaysF ckL dnL tfL h K) : ∃ fd, FunD K "extreme_of" "extreme_of" (defArgs s_extreme_of) (defBody s_extreme_of) (defScope s_extreme_of) [] [] (He.ga K "extreme_of") fd := (c.def_ 10)
theorem hf_g_extreme_of (X : K.In h) (G : h.Ns mainGlobals mg) (c : SaysF ckL dnL tfL h K) : mg "extreme_of" = some (.ref (He.ga K "extreme_of")) := He.glo_ok X G (c.at_ 31)
theorem hf_k_extreme_of (X : K.In h) (G : h.Ns mainGlobals mg) (c : SaysF ckL dnL tfL h K) : PySem.W.keepIn K (.ref (He.ga K "extreme_of")) = true := He.keep_ok (c.at_ 32)
theorem hf_d_Ratio_least (X : K.In h) (G : h.Ns mainGlobals mg) (c : SaysF ckL dnL tfL h K) : ∃ fd, FunD K "least" "Ratio.least" (defArgs s_Ratio_least) (defBody s_Ratio_least) (defScope s_Ratio_least) [] [] (He5.wf K (He.ga K "Ratio") "classmethod" "least") fd := (c.def_ 11)
theorem hf_d_Ratio_greatest (X : K.In h) (G : h.Ns mainGlobals mg) (c : SaysF ckL dnL tfL h K) : ∃ fd, FunD K "greatest" "Ratio.greatest" (defArgs s_Ratio_greatest) (defBody s_Ratio_greatest) (defScope s_Ratio_greatest) [] [] (He5.wf K (He.ga K "Ratio") "classmethod" "greatest") fd := (c.def_ 12)
theorem hf_d_Ratio___add__ (X : K.In h) (G : h.Ns mainGlobals mg) (c : SaysF ckL dnL tfL h K) : ∃ fd, FunD K "__add__" "Ratio.__add__" (defArgs s_Ratio___add__) (defBody s_Ratio___add__) (defScope s_Ratio___add__) [] [] (He.ma K (He.ga K "Ratio") "__add__") fd := (c.def_ 13)
theorem hf_d_Ratio___mul__ (X : K.In h) (G : h.Ns mainGlobals mg) (c : SaysF ckL dnL tfL h K) : ∃ fd, FunD K "__mul__" "Ratio.__mul__" (defArgs s_Ratio___mul__) (defBody s_Ratio___mul__) (defScope s_Ratio___mul__) [] [] (He.ma K (He.ga K "Ratio") "__mul__") fd := (c.def_ 14)
theorem hf_d_Ratio_over (X : K.In h) (G : h.Ns mainGlobals mg) (c : SaysF ckL dnL tfL h K) : ∃ fd, FunD K "over" "Ratio.over" (defArgs s_Ratio_over) (defBody s_Ratio_over) (defScope s_Ratio_over) [] [] (He.ma K (He.ga K "Ratio") "over") fd := (c.def_ 15)
theorem hf_d_Ratio___eq__ (X : K.In h) (G : h.Ns mainGlobals mg) (c : SaysF ckL dnL tfL h K) : ∃ fd, FunD K "__eq__" "Ratio.__eq__" (defArgs s_Ratio___eq__) (defBody s_Ratio___eq__) (defScope s_Ratio___eq__) [] [] (He.ma K (He.ga K "Ratio") "__eq__") fd := (c.def_ 16)
theorem hf_g_Move (X : K.In h) (G : h.Ns mainGlobals mg) (c : SaysF ckL dnL tfL h K) : mg "Move" = some (.ref (He.ga K "Move")) := He.glo_ok X G (c.at_ 33)
theorem hf_x_InvalidMove (X : K.In h) (G : h.Ns mainGlobals mg) (c : SaysF ckL dnL tfL h K) : ∀ X : Cx, X.prog = P → X.w = w → X.K = K → X.mg = mg → X.base = base → ExcD X "InvalidMove" 1 exm_InvalidMove := fun X e1 e2 e3 e4 e5 => by
    subst e1 e2 e3 e4 e5
    obtain ⟨fd, F⟩ := (c.def_ 17)
    exact ⟨oexB_ok (c.at_ 34), _, fd, ["self", "part"], He.eqO_ok (He.ba (c.at_ 35)).1, of_decide_eq_true (He.ba (c.at_ 35)).2, exInit1 (oexB_ok (c.at_ 34)) F ⟨rfl, rfl, rfl, by decide +kernel, rfl, by decide +kernel, by decide +kernel⟩ (He.noat_ok (c.at_ 36)) rfl rfl rfl, F.bindsN (ps := ["self", "part"]) fun _ _ _ _ _ _ us hl => match us, hl with | [_, _], _ => rfl⟩
theorem hf_g_InvalidMove (X : K.In h) (G : h.Ns mainGlobals mg) (c : SaysF ckL dnL tfL h K) : mg "InvalidMove" = some (.ref (He.ga K "InvalidMove")) := He.glo_ok X G (c.at_ 37)
theorem hf_d_require_move (X : K.In h) (G : h.Ns mainGlobals mg) (c : SaysF ckL dnL tfL h K) : ∃ fd, FunD K "require_move" "require_move" (defArgs s_require_move) (defBody s_require_move) (defScope s_require_move) [] [] (He.ga K "require_move") fd := (c.def_ 18)
theorem hf_c_Move (X : K.In h) (G : h.Ns mainGlobals mg) (c : SaysF ckL dnL tfL h K) : Cls K (He.ga K "Move") := He.cls_ok (c.at_ 38)
theorem hf_no_Move_own_divisor (X : K.In h) (G : h.Ns mainGlobals mg) (c : SaysF ckL dnL tfL h K) : NoAttr K (He.ga K "Move") "own_divisor" := He.noat_ok (c.at_ 39)
theorem hf_no_Move_own_plus (X : K.In h) (G : h.Ns mainGlobals mg) (c : SaysF ckL dnL tfL h K) : NoAttr K (He.ga K "Move") "own_plus" := He.noat_ok (c.at_ 40)
theorem hf_no_Move_own_low (X : K.In h) (G : h.Ns mainGlobals mg) (c : SaysF ckL dnL tfL h K) : NoAttr K (He.ga K "Move") "own_low" := He.noat_ok (c.at_ 41)
theorem hf_no_Move_own_high (X : K.In h) (G : h.Ns mainGlobals mg) (c : SaysF ckL dnL tfL h K) : NoAttr K (He.ga K "Move") "own_high" := He.noat_ok (c.at_ 42)
theorem hf_d_Move___init__ (X : K.In h) (G : h.Ns mainGlobals mg) (c : SaysF ckL dnL tfL h K) : ∃ fd, FunD K "__init__" "Move.__init__" (defArgs s_Move___init__) (defBody s_Move___init__) (defScope s_Move___init__) [] [] (He.ma K (He.ga K "Move") "__init__") fd := (c.def_ 19)
theorem hf_ow_Ratio___add__ (X : K.In h) (G : h.Ns mainGlobals mg) (c : SaysF ckL dnL tfL h K) : OwnAt K "Ratio" "__add__" (He.ma K (He.ga K "Ratio") "__add__") := ownB_ok (c.at_ 43)
theorem hf_sf_Ratio (X : K.In h) (G : h.Ns mainGlobals mg) (c : SaysF ckL dnL tfL h K) : PySem.W.selfFirst K (He.ga K "Ratio") = true := (c.at_ 44)
theorem hf_m_Ratio_over (X : K.In h) (G : h.Ns mainGlobals mg) (c : SaysF ckL dnL tfL h K) : Meth K (He.ga K "Ratio") "over" (He.ma K (He.ga K "Ratio") "over") := He.meth_ok (c.at_ 45)
theorem hf_d_Move_free (X : K.In h) (G : h.Ns mainGlobals mg) (c : SaysF ckL dnL tfL h K) : ∃ fd, FunD K "free" "Move.free" (defArgs s_Move_free) (defBody s_Move_free) (defScope s_Move_free) [] [] (He.ma K (He.ga K "Move") "free") fd := (c.def_ 20)
theorem hf_cm_Ratio_greatest (X : K.In h) (G : h.Ns mainGlobals mg) (c : SaysF ckL dnL tfL h K) : ClX.CMet K (He.ga K "Ratio") (.type "type") "greatest" (He.ma K (He.ga K "Ratio") "greatest") (He5.wf K (He.ga K "Ratio") "classmethod" "greatest") := cmetB_ok (c.at_ 46)
theorem hf_cm_Ratio_least (X : K.In h) (G : h.Ns mainGlobals mg) (c : SaysF ckL dnL tfL h K) : ClX.CMet K (He.ga K "Ratio") (.type "type") "least" (He.ma K (He.ga K "Ratio") "least") (He5.wf K (He.ga K "Ratio") "classmethod" "least") := cmetB_ok (c.at_ 47)
theorem hf_d_Move_held (X : K.In h) (G : h.Ns mainGlobals mg) (c : SaysF ckL dnL tfL h K) : ∃ fd, FunD K "held" "Move.held" (defArgs s_Move_held) (defBody s_Move_held) (defScope s_Move_held) [] [] (He.ma K (He.ga K "Move") "held") fd := (c.def_ 21)
theorem hf_m_Move_free (X : K.In h) (G : h.Ns mainGlobals mg) (c : SaysF ckL dnL tfL h K) : Meth K (He.ga K "Move") "free" (He.ma K (He.ga K "Move") "free") := He.meth_ok (c.at_ 48)
theorem hf_m_Move_held (X : K.In h) (G : h.Ns mainGlobals mg) (c : SaysF ckL dnL tfL h K) : Meth K (He.ga K "Move") "held" (He.ma K (He.ga K "Move") "held") := He.meth_ok (c.at_ 49)
theorem hf_d_Move_at (X : K.In h) (G : h.Ns mainGlobals mg) (c : SaysF ckL dnL tfL h K) : ∃ fd, FunD K "at" "Move.at" (defArgs s_Move_at) (defBody s_Move_at) (defScope s_Move_at) [] [] (He.ma K (He.ga K "Move") "at") fd := (c.def_ 22)
theorem hf_g_require_move (X : K.In h) (G : h.Ns mainGlobals mg) (c : SaysF ckL dnL tfL h K) : mg "require_move" = some (.ref (He.ga K "require_move")) := He.glo_ok X G (c.at_ 50)
theorem hf_k_require_move (X : K.In h) (G : h.Ns mainGlobals mg) (c : SaysF ckL dnL tfL h K) : PySem.W.keepIn K (.ref (He.ga K "require_move")) = true := He.keep_ok (c.at_ 51)
theorem hf_p_Move_plus (X : K.In h) (G : h.Ns mainGlobals mg) (c : SaysF ckL dnL tfL h K) : PropG P w K mg base "Move" "plus" "own_plus" := propG_of (He.cls_ok (c.at_ 38)) (He.noat_ok (c.at_ 40)) (propB_ok (c.at_ 52)) (c.def_ 23) ⟨rfl, rfl, rfl, by decide +kernel, rfl, by decide +kernel, by decide +kernel⟩ rfl (fun _ _ _ _ _ _ us hl => match us, hl with | [_], _ => rfl)
theorem hf_ow_Ratio___mul__ (X : K.In h) (G : h.Ns mainGlobals mg) (c : SaysF ckL dnL tfL h K) : OwnAt K "Ratio" "__mul__" (He.ma K (He.ga K "Ratio") "__mul__") := ownB_ok (c.at_ 53)
theorem hf_oi_Ratio___mul__ (X : K.In h) (G : h.Ns mainGlobals mg) (c : SaysF ckL dnL tfL h K) : OwnI K "Ratio" (PySem.dunder Operator.Mult.info.2) (PySem.dunderR Operator.Mult.info.2) := owniB_ok (c.at_ 54)
theorem hf_p_Move_divisor (X : K.In h) (G : h.Ns mainGlobals mg) (c : SaysF ckL dnL tfL h K) : PropG P w K mg base "Move" "divisor" "own_divisor" := propG_of (He.cls_ok (c.at_ 38)) (He.noat_ok (c.at_ 39)) (propB_ok (c.at_ 55)) (c.def_ 24) ⟨rfl, rfl, rfl, by decide +kernel, rfl, by decide +kernel, by decide +kernel⟩ rfl (fun _ _ _ _ _ _ us hl => match us, hl with | [_], _ => rfl)
theorem hf_m_Move_at (X : K.In h) (G : h.Ns mainGlobals mg) (c : SaysF ckL dnL tfL h K) : Meth K (He.ga K "Move") "at" (He.ma K (He.ga K "Move") "at") := He.meth_ok (c.at_ 56)
theorem hf_mk_Move (X : K.In h) (G : h.Ns mainGlobals mg) (c : SaysF ckL dnL tfL h K) : Mk K (He.ga K "Move") (He.ma K (He.ga K "Move") "__init__") := He.mkr_ok (c.at_ 57)
theorem hf_d_Move_then (X : K.In h) (G : h.Ns mainGlobals mg) (c : SaysF ckL dnL tfL h K) : ∃ fd, FunD K "then" "Move.then" (defArgs s_Move_then) (defBody s_Move_then) (defScope s_Move_then) [] [] (He.ma K (He.ga K "Move") "then") fd := (c.def_ 25)
theorem hf_d_Move_added (X : K.In h) (G : h.Ns mainGlobals mg) (c : SaysF ckL dnL tfL h K) : ∃ fd, FunD K "added" "Move.added" (defArgs s_Move_added) (defBody s_Move_added) (defScope s_Move_added) [] [] (He.ma K (He.ga K "Move") "added") fd := (c.def_ 26)
theorem hf_x_InvalidCount (X : K.In h) (G : h.Ns mainGlobals mg) (c : SaysF ckL dnL tfL h K) : ∀ X : Cx, X.prog = P → X.w = w → X.K = K → X.mg = mg → X.base = base → ExcD X "InvalidCount" 1 exm_InvalidCount := fun X e1 e2 e3 e4 e5 => by
    subst e1 e2 e3 e4 e5
    obtain ⟨fd, F⟩ := (c.def_ 27)
    exact ⟨oexB_ok (c.at_ 58), _, fd, ["self", "value"], He.eqO_ok (He.ba (c.at_ 59)).1, of_decide_eq_true (He.ba (c.at_ 59)).2, exInit1 (oexB_ok (c.at_ 58)) F ⟨rfl, rfl, rfl, by decide +kernel, rfl, by decide +kernel, by decide +kernel⟩ (He.noat_ok (c.at_ 60)) rfl rfl rfl, F.bindsN (ps := ["self", "value"]) fun _ _ _ _ _ _ us hl => match us, hl with | [_, _], _ => rfl⟩
theorem hf_g_InvalidCount (X : K.In h) (G : h.Ns mainGlobals mg) (c : SaysF ckL dnL tfL h K) : mg "InvalidCount" = some (.ref (He.ga K "InvalidCount")) := He.glo_ok X G (c.at_ 61)
theorem hf_m_Move_added (X : K.In h) (G : h.Ns mainGlobals mg) (c : SaysF ckL dnL tfL h K) : Meth K (He.ga K "Move") "added" (He.ma K (He.ga K "Move") "added") := He.meth_ok (c.at_ 62)
theorem hf_i_MOST_TIMES (X : K.In h) (G : h.Ns mainGlobals mg) (c : SaysF ckL dnL tfL h K) : ∃ t, mg "MOST_TIMES" = some (.int 100 t) := He.int_ok X G (c.at_ 63)
theorem hf_x_TooMany (X : K.In h) (G : h.Ns mainGlobals mg) (c : SaysF ckL dnL tfL h K) : ∀ X : Cx, X.prog = P → X.w = w → X.K = K → X.mg = mg → X.base = base → ExcD X "TooMany" 2 exm_TooMany := fun X e1 e2 e3 e4 e5 => by
    subst e1 e2 e3 e4 e5
    obtain ⟨fd, F⟩ := (c.def_ 28)
    exact ⟨oexB_ok (c.at_ 64), _, fd, ["self", "kind", "limit"], He.eqO_ok (He.ba (c.at_ 65)).1, of_decide_eq_true (He.ba (c.at_ 65)).2, exInit2 (oexB_ok (c.at_ 64)) F ⟨rfl, rfl, rfl, by decide +kernel, rfl, by decide +kernel, by decide +kernel⟩ (He.noat_ok (c.at_ 66)) (He.noat_ok (c.at_ 67)) rfl rfl rfl rfl rfl, F.bindsN (ps := ["self", "kind", "limit"]) fun _ _ _ _ _ _ us hl => match us, hl with | [_, _, _], _ => rfl⟩
theorem hf_g_TooMany (X : K.In h) (G : h.Ns mainGlobals mg) (c : SaysF ckL dnL tfL h K) : mg "TooMany" = some (.ref (He.ga K "TooMany")) := He.glo_ok X G (c.at_ 68)
theorem hf_n_range (X : K.In h) (G : h.Ns mainGlobals mg) (c : SaysF ckL dnL tfL h K) : mg "range" = none := He.free_ok X G (c.at_ 69)
theorem hf_m_Move_then (X : K.In h) (G : h.Ns mainGlobals mg) (c : SaysF ckL dnL tfL h K) : Meth K (He.ga K "Move") "then" (He.ma K (He.ga K "Move") "then") := He.meth_ok (c.at_ 70)
theorem hf_d_Move_done (X : K.In h) (G : h.Ns mainGlobals mg) (c : SaysF ckL dnL tfL h K) : ∃ fd, FunD K "done" "Move.done" (defArgs s_Move_done) (defBody s_Move_done) (defScope s_Move_done) [] [] (He.ma K (He.ga K "Move") "done") fd := (c.def_ 29)
theorem hf_ow_Ratio___eq__ (X : K.In h) (G : h.Ns mainGlobals mg) (c : SaysF ckL dnL tfL h K) : OwnAt K "Ratio" "__eq__" (He.ma K (He.ga K "Ratio") "__eq__") := ownB_ok (c.at_ 71)
theorem hf_ne_Ratio (X : K.In h) (G : h.Ns mainGlobals mg) (c : SaysF ckL dnL tfL h K) : PySem.W.findIn K (.ref (He.ga K "Ratio")) "__ne__" = some (some (.builtin "object.__ne__")) := He.eqO_ok (c.at_ 72)
theorem hf_mo_Ratio (X : K.In h) (G : h.Ns mainGlobals mg) (c : SaysF ckL dnL tfL h K) : PySem.W.mroIn K (He.ga K "Ratio") (.type "object") = some true := of_decide_eq_true (c.at_ 73)
theorem hf_d_Move___eq__ (X : K.In h) (G : h.Ns mainGlobals mg) (c : SaysF ckL dnL tfL h K) : ∃ fd, FunD K "__eq__" "Move.__eq__" (defArgs s_Move___eq__) (defBody s_Move___eq__) (defScope s_Move___eq__) [] [] (He.ma K (He.ga K "Move") "__eq__") fd := (c.def_ 30)
theorem hf_g__law_draw (X : K.In h) (G : h.Ns mainGlobals mg) (c : SaysF ckL dnL tfL h K) : mg "_law_draw" = some (.ref (He.ga K "_law_draw")) := He.glo_ok X G (c.at_ 74)
theorem hf_k__law_draw (X : K.In h) (G : h.Ns mainGlobals mg) (c : SaysF ckL dnL tfL h K) : PySem.W.keepIn K (.ref (He.ga K "_law_draw")) = true := He.keep_ok (c.at_ 75)
theorem hf_d_law_choice (X : K.In h) (G : h.Ns mainGlobals mg) (c : SaysF ckL dnL tfL h K) : ∃ fd, FunD K "_law_choice" "_law_choice" (defArgs s_law_choice) (defBody s_law_choice) (defScope s_law_choice) [] [] (He.ga K "_law_choice") fd := (c.def_ 31)
theorem hf_d_law_plain (X : K.In h) (G : h.Ns mainGlobals mg) (c : SaysF ckL dnL tfL h K) : ∃ fd, FunD K "_law_plain" "_law_plain" (defArgs s_law_plain) (defBody s_law_plain) (defScope s_law_plain) [] [] (He.ga K "_law_plain") fd := (c.def_ 32)
theorem hf_g__law_plain (X : K.In h) (G : h.Ns mainGlobals mg) (c : SaysF ckL dnL tfL h K) : mg "_law_plain" = some (.ref (He.ga K "_law_plain")) := He.glo_ok X G (c.at_ 76)
theorem hf_k__law_plain (X : K.In h) (G : h.Ns mainGlobals mg) (c : SaysF ckL dnL tfL h K) : PySem.W.keepIn K (.ref (He.ga K "_law_plain")) = true := He.keep_ok (c.at_ 77)
theorem hf_d_law_sum (X : K.In h) (G : h.Ns mainGlobals mg) (c : SaysF ckL dnL tfL h K) : ∃ fd, FunD K "_law_sum" "_law_sum" (defArgs s_law_sum) (defBody s_law_sum) (defScope s_law_sum) [] [] (He.ga K "_law_sum") fd := (c.def_ 33)
theorem hf_d_law_less (X : K.In h) (G : h.Ns mainGlobals mg) (c : SaysF ckL dnL tfL h K) : ∃ fd, FunD K "_law_less" "_law_less" (defArgs s_law_less) (defBody s_law_less) (defScope s_law_less) [] [] (He.ga K "_law_less") fd := (c.def_ 34)
theorem hf_g__law_choice (X : K.In h) (G : h.Ns mainGlobals mg) (c : SaysF ckL dnL tfL h K) : mg "_law_choice" = some (.ref (He.ga K "_law_choice")) := He.glo_ok X G (c.at_ 78)
theorem hf_k__law_choice (X : K.In h) (G : h.Ns mainGlobals mg) (c : SaysF ckL dnL tfL h K) : PySem.W.keepIn K (.ref (He.ga K "_law_choice")) = true := He.keep_ok (c.at_ 79)
theorem hf_d_law_fraction (X : K.In h) (G : h.Ns mainGlobals mg) (c : SaysF ckL dnL tfL h K) : ∃ fd, FunD K "_law_fraction" "_law_fraction" (defArgs s_law_fraction) (defBody s_law_fraction) (defScope s_law_fraction) [] [] (He.ga K "_law_fraction") fd := (c.def_ 35)
theorem hf_d_law_real (X : K.In h) (G : h.Ns mainGlobals mg) (c : SaysF ckL dnL tfL h K) : ∃ fd, FunD K "_law_real" "_law_real" (defArgs s_law_real) (defBody s_law_real) (defScope s_law_real) [] [] (He.ga K "_law_real") fd := (c.def_ 36)
theorem hf_n_repr (X : K.In h) (G : h.Ns mainGlobals mg) (c : SaysF ckL dnL tfL h K) : mg "repr" = none := He.free_ok X G (c.at_ 80)
theorem hf_d_law_is (X : K.In h) (G : h.Ns mainGlobals mg) (c : SaysF ckL dnL tfL h K) : ∃ fd, FunD K "_law_is" "_law_is" (defArgs s_law_is) (defBody s_law_is) (defScope s_law_is) [] [] (He.ga K "_law_is") fd := (c.def_ 37)
theorem hf_d_law_over (X : K.In h) (G : h.Ns mainGlobals mg) (c : SaysF ckL dnL tfL h K) : ∃ fd, FunD K "_law_over" "_law_over" (defArgs s_law_over) (defBody s_law_over) (defScope s_law_over) [] [] (He.ga K "_law_over") fd := (c.def_ 38)
theorem hf_g__law_fraction (X : K.In h) (G : h.Ns mainGlobals mg) (c : SaysF ckL dnL tfL h K) : mg "_law_fraction" = some (.ref (He.ga K "_law_fraction")) := He.glo_ok X G (c.at_ 81)
theorem hf_k__law_fraction (X : K.In h) (G : h.Ns mainGlobals mg) (c : SaysF ckL dnL tfL h K) : PySem.W.keepIn K (.ref (He.ga K "_law_fraction")) = true := He.keep_ok (c.at_ 82)
theorem hf_g__law_less (X : K.In h) (G : h.Ns mainGlobals mg) (c : SaysF ckL dnL tfL h K) : mg "_law_less" = some (.ref (He.ga K "_law_less")) := He.glo_ok X G (c.at_ 83)
theorem hf_k__law_less (X : K.In h) (G : h.Ns mainGlobals mg) (c : SaysF ckL dnL tfL h K) : PySem.W.keepIn K (.ref (He.ga K "_law_less")) = true := He.keep_ok (c.at_ 84)
theorem hf_d_law_move (X : K.In h) (G : h.Ns mainGlobals mg) (c : SaysF ckL dnL tfL h K) : ∃ fd, FunD K "_law_move" "_law_move" (defArgs s_law_move) (defBody s_law_move) (defScope s_law_move) [] [] (He.ga K "_law_move") fd := (c.def_ 39)
theorem hf_g__law_sum (X : K.In h) (G : h.Ns mainGlobals mg) (c : SaysF ckL dnL tfL h K) : mg "_law_sum" = some (.ref (He.ga K "_law_sum")) := He.glo_ok X G (c.at_ 85)
theorem hf_k__law_sum (X : K.In h) (G : h.Ns mainGlobals mg) (c : SaysF ckL dnL tfL h K) : PySem.W.keepIn K (.ref (He.ga K "_law_sum")) = true := He.keep_ok (c.at_ 86)
theorem hf_g__law_over (X : K.In h) (G : h.Ns mainGlobals mg) (c : SaysF ckL dnL tfL h K) : mg "_law_over" = some (.ref (He.ga K "_law_over")) := He.glo_ok X G (c.at_ 87)
theorem hf_k__law_over (X : K.In h) (G : h.Ns mainGlobals mg) (c : SaysF ckL dnL tfL h K) : PySem.W.keepIn K (.ref (He.ga K "_law_over")) = true := He.keep_ok (c.at_ 88)
theorem hf_d_law_at (X : K.In h) (G : h.Ns mainGlobals mg) (c : SaysF ckL dnL tfL h K) : ∃ fd, FunD K "_law_at" "_law_at" (defArgs s_law_at) (defBody s_law_at) (defScope s_law_at) [] [] (He.ga K "_law_at") fd := (c.def_ 40)
theorem hf_g__law_real (X : K.In h) (G : h.Ns mainGlobals mg) (c : SaysF ckL dnL tfL h K) : mg "_law_real" = some (.ref (He.ga K "_law_real")) := He.glo_ok X G (c.at_ 89)
theorem hf_k__law_real (X : K.In h) (G : h.Ns mainGlobals mg) (c : SaysF ckL dnL tfL h K) : PySem.W.keepIn K (.ref (He.ga K "_law_real")) = true := He.keep_ok (c.at_ 90)
theorem hf_d_law_made (X : K.In h) (G : h.Ns mainGlobals mg) (c : SaysF ckL dnL tfL h K) : ∃ fd, FunD K "_law_made" "_law_made" (defArgs s_law_made) (defBody s_law_made) (defScope s_law_made) [] [] (He.ga K "_law_made") fd := (c.def_ 41)
theorem hf_g__law_is (X : K.In h) (G : h.Ns mainGlobals mg) (c : SaysF ckL dnL tfL h K) : mg "_law_is" = some (.ref (He.ga K "_law_is")) := He.glo_ok X G (c.at_ 91)
theorem hf_k__law_is (X : K.In h) (G : h.Ns mainGlobals mg) (c : SaysF ckL dnL tfL h K) : PySem.W.keepIn K (.ref (He.ga K "_law_is")) = true := He.keep_ok (c.at_ 92)
theorem hf_p_Move_low (X : K.In h) (G : h.Ns mainGlobals mg) (c : SaysF ckL dnL tfL h K) : PropG P w K mg base "Move" "low" "own_low" := propG_of (He.cls_ok (c.at_ 38)) (He.noat_ok (c.at_ 41)) (propB_ok (c.at_ 93)) (c.def_ 42) ⟨rfl, rfl, rfl, by decide +kernel, rfl, by decide +kernel, by decide +kernel⟩ rfl (fun _ _ _ _ _ _ us hl => match us, hl with | [_], _ => rfl)
theorem hf_p_Move_high (X : K.In h) (G : h.Ns mainGlobals mg) (c : SaysF ckL dnL tfL h K) : PropG P w K mg base "Move" "high" "own_high" := propG_of (He.cls_ok (c.at_ 38)) (He.noat_ok (c.at_ 42)) (propB_ok (c.at_ 94)) (c.def_ 43) ⟨rfl, rfl, rfl, by decide +kernel, rfl, by decide +kernel, by decide +kernel⟩ rfl (fun _ _ _ _ _ _ us hl => match us, hl with | [_], _ => rfl)
theorem hf_d_law_is_move (X : K.In h) (G : h.Ns mainGlobals mg) (c : SaysF ckL dnL tfL h K) : ∃ fd, FunD K "_law_is_move" "_law_is_move" (defArgs s_law_is_move) (defBody s_law_is_move) (defScope s_law_is_move) [] [] (He.ga K "_law_is_move") fd := (c.def_ 44)
theorem hf_d_law_near (X : K.In h) (G : h.Ns mainGlobals mg) (c : SaysF ckL dnL tfL h K) : ∃ fd, FunD K "_law_near" "_law_near" (defArgs s_law_near) (defBody s_law_near) (defScope s_law_near) [] [] (He.ga K "_law_near") fd := (c.def_ 45)
theorem hf_g__law_at (X : K.In h) (G : h.Ns mainGlobals mg) (c : SaysF ckL dnL tfL h K) : mg "_law_at" = some (.ref (He.ga K "_law_at")) := He.glo_ok X G (c.at_ 95)
theorem hf_k__law_at (X : K.In h) (G : h.Ns mainGlobals mg) (c : SaysF ckL dnL tfL h K) : PySem.W.keepIn K (.ref (He.ga K "_law_at")) = true := He.keep_ok (c.at_ 96)
theorem hf_d_law_then (X : K.In h) (G : h.Ns mainGlobals mg) (c : SaysF ckL dnL tfL h K) : ∃ fd, FunD K "_law_then" "_law_then" (defArgs s_law_then) (defBody s_law_then) (defScope s_law_then) [] [] (He.ga K "_law_then") fd := (c.def_ 46)
theorem hf_d_law_raised (X : K.In h) (G : h.Ns mainGlobals mg) (c : SaysF ckL dnL tfL h K) : ∃ fd, FunD K "_law_raised" "_law_raised" (defArgs s_law_raised) (defBody s_law_raised) (defScope s_law_raised) [] [] (He.ga K "_law_raised") fd := (c.def_ 47)
theorem hf_g__law_made (X : K.In h) (G : h.Ns mainGlobals mg) (c : SaysF ckL dnL tfL h K) : mg "_law_made" = some (.ref (He.ga K "_law_made")) := He.glo_ok X G (c.at_ 97)
theorem hf_k__law_made (X : K.In h) (G : h.Ns mainGlobals mg) (c : SaysF ckL dnL tfL h K) : PySem.W.keepIn K (.ref (He.ga K "_law_made")) = true := He.keep_ok (c.at_ 98)
theorem hf_g__law_then (X : K.In h) (G : h.Ns mainGlobals mg) (c : SaysF ckL dnL tfL h K) : mg "_law_then" = some (.ref (He.ga K "_law_then")) := He.glo_ok X G (c.at_ 99)
theorem hf_k__law_then (X : K.In h) (G : h.Ns mainGlobals mg) (c : SaysF ckL dnL tfL h K) : PySem.W.keepIn K (.ref (He.ga K "_law_then")) = true := He.keep_ok (c.at_ 100)
theorem hf_g__law_is_move (X : K.In h) (G : h.Ns mainGlobals mg) (c : SaysF ckL dnL tfL h K) : mg "_law_is_move" = some (.ref (He.ga K "_law_is_move")) := He.glo_ok X G (c.at_ 101)
theorem hf_k__law_is_move (X : K.In h) (G : h.Ns mainGlobals mg) (c : SaysF ckL dnL tfL h K) : PySem.W.keepIn K (.ref (He.ga K "_law_is_move")) = true := He.keep_ok (c.at_ 102)
theorem hf_g__law_near (X : K.In h) (G : h.Ns mainGlobals mg) (c : SaysF ckL dnL tfL h K) : mg "_law_near" = some (.ref (He.ga K "_law_near")) := He.glo_ok X G (c.at_ 103)
theorem hf_k__law_near (X : K.In h) (G : h.Ns mainGlobals mg) (c : SaysF ckL dnL tfL h K) : PySem.W.keepIn K (.ref (He.ga K "_law_near")) = true := He.keep_ok (c.at_ 104)
theorem hf_ow_Move___eq__ (X : K.In h) (G : h.Ns mainGlobals mg) (c : SaysF ckL dnL tfL h K) : OwnAt K "Move" "__eq__" (He.ma K (He.ga K "Move") "__eq__") := ownB_ok (c.at_ 105)
theorem hf_ne_Move (X : K.In h) (G : h.Ns mainGlobals mg) (c : SaysF ckL dnL tfL h K) : PySem.W.findIn K (.ref (He.ga K "Move")) "__ne__" = some (some (.builtin "object.__ne__")) := He.eqO_ok (c.at_ 106)
theorem hf_mo_Move (X : K.In h) (G : h.Ns mainGlobals mg) (c : SaysF ckL dnL tfL h K) : PySem.W.mroIn K (He.ga K "Move") (.type "object") = some true := of_decide_eq_true (c.at_ 107)
theorem hf_d_law_then_right (X : K.In h) (G : h.Ns mainGlobals mg) (c : SaysF ckL dnL tfL h K) : ∃ fd, FunD K "_law_then_right" "_law_then_right" (defArgs s_law_then_right) (defBody s_law_then_right) (defScope s_law_then_right) [] [] (He.ga K "_law_then_right") fd := (c.def_ 48)
theorem hf_m_Move_done (X : K.In h) (G : h.Ns mainGlobals mg) (c : SaysF ckL dnL tfL h K) : Meth K (He.ga K "Move") "done" (He.ma K (He.ga K "Move") "done") := He.meth_ok (c.at_ 108)
theorem hf_g__law_raised (X : K.In h) (G : h.Ns mainGlobals mg) (c : SaysF ckL dnL tfL h K) : mg "_law_raised" = some (.ref (He.ga K "_law_raised")) := He.glo_ok X G (c.at_ 109)
theorem hf_k__law_raised (X : K.In h) (G : h.Ns mainGlobals mg) (c : SaysF ckL dnL tfL h K) : PySem.W.keepIn K (.ref (He.ga K "_law_raised")) = true := He.keep_ok (c.at_ 110)
theorem hf_d_law_done_right (X : K.In h) (G : h.Ns mainGlobals mg) (c : SaysF ckL dnL tfL h K) : ∃ fd, FunD K "_law_done_right" "_law_done_right" (defArgs s_law_done_right) (defBody s_law_done_right) (defScope s_law_done_right) [] [] (He.ga K "_law_done_right") fd := (c.def_ 49)
theorem hf_d_law_refused_right (X : K.In h) (G : h.Ns mainGlobals mg) (c : SaysF ckL dnL tfL h K) : ∃ fd, FunD K "_law_refused_right" "_law_refused_right" (defArgs s_law_refused_right) (defBody s_law_refused_right) (defScope s_law_refused_right) [] [] (He.ga K "_law_refused_right") fd := (c.def_ 50)
theorem hf_g__law_move (X : K.In h) (G : h.Ns mainGlobals mg) (c : SaysF ckL dnL tfL h K) : mg "_law_move" = some (.ref (He.ga K "_law_move")) := He.glo_ok X G (c.at_ 111)
theorem hf_k__law_move (X : K.In h) (G : h.Ns mainGlobals mg) (c : SaysF ckL dnL tfL h K) : PySem.W.keepIn K (.ref (He.ga K "_law_move")) = true := He.keep_ok (c.at_ 112)
theorem hf_g__law_then_right (X : K.In h) (G : h.Ns mainGlobals mg) (c : SaysF ckL dnL tfL h K) : mg "_law_then_right" = some (.ref (He.ga K "_law_then_right")) := He.glo_ok X G (c.at_ 113)
theorem hf_k__law_then_right (X : K.In h) (G : h.Ns mainGlobals mg) (c : SaysF ckL dnL tfL h K) : PySem.W.keepIn K (.ref (He.ga K "_law_then_right")) = true := He.keep_ok (c.at_ 114)
theorem hf_g__law_done_right (X : K.In h) (G : h.Ns mainGlobals mg) (c : SaysF ckL dnL tfL h K) : mg "_law_done_right" = some (.ref (He.ga K "_law_done_right")) := He.glo_ok X G (c.at_ 115)
theorem hf_k__law_done_right (X : K.In h) (G : h.Ns mainGlobals mg) (c : SaysF ckL dnL tfL h K) : PySem.W.keepIn K (.ref (He.ga K "_law_done_right")) = true := He.keep_ok (c.at_ 116)
theorem hf_n_all (X : K.In h) (G : h.Ns mainGlobals mg) (c : SaysF ckL dnL tfL h K) : mg "all" = none := He.free_ok X G (c.at_ 117)
theorem hf_g__law_refused_right (X : K.In h) (G : h.Ns mainGlobals mg) (c : SaysF ckL dnL tfL h K) : mg "_law_refused_right" = some (.ref (He.ga K "_law_refused_right")) := He.glo_ok X G (c.at_ 118)
theorem hf_k__law_refused_right (X : K.In h) (G : h.Ns mainGlobals mg) (c : SaysF ckL dnL tfL h K) : PySem.W.keepIn K (.ref (He.ga K "_law_refused_right")) = true := He.keep_ok (c.at_ 119)
theorem hf_d_law_right (X : K.In h) (G : h.Ns mainGlobals mg) (c : SaysF ckL dnL tfL h K) : ∃ fd, FunD K "_law_right" "_law_right" (defArgs s_law_right) (defBody s_law_right) (defScope s_law_right) [] [] (He.ga K "_law_right") fd := (c.def_ 51)
theorem hf_d_law_draw (X : K.In h) (G : h.Ns mainGlobals mg) (c : SaysF ckL dnL tfL h K) : ∃ fd, FunD K "_law_draw" "_law_draw" (defArgs s_law_draw) (defBody s_law_draw) (defScope s_law_draw) [] [] (He.ga K "_law_draw") fd := (c.def_ 52)
theorem hf_n_divmod (X : K.In h) (G : h.Ns mainGlobals mg) (c : SaysF ckL dnL tfL h K) : mg "divmod" = none := He.free_ok X G (c.at_ 120)
theorem hf_n_max (X : K.In h) (G : h.Ns mainGlobals mg) (c : SaysF ckL dnL tfL h K) : mg "max" = none := He.free_ok X G (c.at_ 121)
theorem hf_n_min (X : K.In h) (G : h.Ns mainGlobals mg) (c : SaysF ckL dnL tfL h K) : mg "min" = none := He.free_ok X G (c.at_ 122)
theorem hf_g__law_rng (X : K.In h) (G : h.Ns mainGlobals mg) (c : SaysF ckL dnL tfL h K) : mg "_law_rng" = some (.ref (He.ga K "_law_rng")) := He.glo_ok X G (c.at_ 123)
theorem hf_k__law_rng (X : K.In h) (G : h.Ns mainGlobals mg) (c : SaysF ckL dnL tfL h K) : PySem.W.keepIn K (.ref (He.ga K "_law_rng")) = true := He.keep_ok (c.at_ 124)
theorem hf_g__law_right (X : K.In h) (G : h.Ns mainGlobals mg) (c : SaysF ckL dnL tfL h K) : mg "_law_right" = some (.ref (He.ga K "_law_right")) := He.glo_ok X G (c.at_ 125)
theorem hf_k__law_right (X : K.In h) (G : h.Ns mainGlobals mg) (c : SaysF ckL dnL tfL h K) : PySem.W.keepIn K (.ref (He.ga K "_law_right")) = true := He.keep_ok (c.at_ 126)
theorem hf_d_law_rng (X : K.In h) (G : h.Ns mainGlobals mg) (c : SaysF ckL dnL tfL h K) : ∃ fd, FunD K "_law_rng" "_law_rng" (defArgs s_law_rng) (defBody s_law_rng) (defScope s_law_rng) [] [] (He.ga K "_law_rng") fd := (c.def_ 53)
theorem hf_repK (X : K.In h) (G : h.Ns mainGlobals mg) (c : SaysF ckL dnL tfL h K) : RepK P w K mg base := repr_walk (a9 := ⟨0, 0, 0, 0⟩) (He.cls_ok (c.at_ 16)) (He.noat_ok (c.at_ 17)) (He.noat_ok (c.at_ 19)) (ownB_ok (c.at_ 127)) (c.def_ 54) ⟨rfl, rfl, rfl, by decide +kernel, rfl, by decide +kernel, by decide +kernel⟩ rfl (fun _ _ _ _ _ _ us hl => match us, hl with | [_], _ => rfl)
theorem hf_d_law_told (X : K.In h) (G : h.Ns mainGlobals mg) (c : SaysF ckL dnL tfL h K) : ∃ fd, FunD K "_law_told" "_law_told" (defArgs s_law_told) (defBody s_law_told) (defScope s_law_told) [] [] (He.ga K "_law_told") fd := (c.def_ 55)
theorem hf_g__law_told (X : K.In h) (G : h.Ns mainGlobals mg) (c : SaysF ckL dnL tfL h K) : mg "_law_told" = some (.ref (He.ga K "_law_told")) := He.glo_ok X G (c.at_ 128)
theorem hf_k__law_told (X : K.In h) (G : h.Ns mainGlobals mg) (c : SaysF ckL dnL tfL h K) : PySem.W.keepIn K (.ref (He.ga K "_law_told")) = true := He.keep_ok (c.at_ 129)
theorem hf_exm (X : K.In h) (G : h.Ns mainGlobals mg) (c : SaysF ckL dnL tfL h K) : ∀ (i j : Nat) (a b : Cla), clas[i]? = some a → clas[j]? = some b → PySem.W.exmOne K (.ref (He.ga K a.c)) (.ref (He.ga K b.c)) = some (decide (i = j)) := exmB_ok (c.at_ 130)
theorem hf_xf_InvalidMove (X : K.In h) (G : h.Ns mainGlobals mg) (c : SaysF ckL dnL tfL h K) : XfC K (He.ga K "InvalidMove") := xfB_ok (c.at_ 131)
theorem hf_no_InvalidMove_part (X : K.In h) (G : h.Ns mainGlobals mg) (c : SaysF ckL dnL tfL h K) : NoAttr K (He.ga K "InvalidMove") "part" := He.noat_ok (c.at_ 36)
theorem hf_xf_InvalidCount (X : K.In h) (G : h.Ns mainGlobals mg) (c : SaysF ckL dnL tfL h K) : XfC K (He.ga K "InvalidCount") := xfB_ok (c.at_ 132)
theorem hf_no_InvalidCount_value (X : K.In h) (G : h.Ns mainGlobals mg) (c : SaysF ckL dnL tfL h K) : NoAttr K (He.ga K "InvalidCount") "value" := He.noat_ok (c.at_ 60)
theorem hf_xf_TooMany (X : K.In h) (G : h.Ns mainGlobals mg) (c : SaysF ckL dnL tfL h K) : XfC K (He.ga K "TooMany") := xfB_ok (c.at_ 133)
theorem hf_no_TooMany_kind (X : K.In h) (G : h.Ns mainGlobals mg) (c : SaysF ckL dnL tfL h K) : NoAttr K (He.ga K "TooMany") "kind" := He.noat_ok (c.at_ 66)
theorem hf_no_TooMany_limit (X : K.In h) (G : h.Ns mainGlobals mg) (c : SaysF ckL dnL tfL h K) : NoAttr K (He.ga K "TooMany") "limit" := He.noat_ok (c.at_ 67)
theorem hf_tne (X : K.In h) (G : h.Ns mainGlobals mg) (c : SaysF ckL dnL tfL h K) : (He.cT K ("_law_done_right", none)).2 ≠ (He.cT K ("_law_refused_right", none)).2 := of_decide_eq_true (c.at_ 134)
theorem fx_of (X : K.In h) (G : h.Ns mainGlobals mg) (c : SaysF ckL dnL tfL h K) (tb : ∀ x ∈ lamOf, LamX.TabB base mg (He.cT K (x, none)).1 (He.cT K (x, none)).2) : Fx P w K mg base (LamX.Tabs (Tbs K)) :=
  ⟨tabs_ok _, hf_n_int X G c, hf_isi X G c, hf_n_isinstance X G c, hf_n_bool X G c, hf_d_is_integer X G c, hf_g_is_integer X G c, hf_k_is_integer X G c, hf_g_Ratio X G c, hf_d_is_number X G c, hf_g_is_number X G c, hf_k_is_number X G c, hf_x_InvalidNumber X G c, hf_g_InvalidNumber X G c, hf_d_require_number X G c, hf_n_abs X G c, hf_d_divisor_of X G c, hf_c_Ratio X G c, hf_no_Ratio_own_top X G c, hf_p_Ratio_top X G c, hf_no_Ratio_own_bottom X G c, hf_p_Ratio_bottom X G c, hf_d_is_less X G c, hf_g_divisor_of X G c, hf_k_divisor_of X G c, hf_d_Ratio___init__ X G c, hf_g_require_number X G c, hf_k_require_number X G c, hf_mk_Ratio X G c, hf_d_Ratio_of X G c, hf_n_len X G c, hf_cr_Ratio X G c, hf_cm_Ratio_of X G c, hf_g_is_less X G c, hf_k_is_less X G c, hf_d_extreme_of X G c, hf_g_extreme_of X G c, hf_k_extreme_of X G c, hf_d_Ratio_least X G c, hf_d_Ratio_greatest X G c, hf_d_Ratio___add__ X G c, hf_d_Ratio___mul__ X G c, hf_d_Ratio_over X G c, hf_d_Ratio___eq__ X G c, hf_g_Move X G c, hf_x_InvalidMove X G c, hf_g_InvalidMove X G c, hf_d_require_move X G c, hf_c_Move X G c, hf_no_Move_own_divisor X G c, hf_no_Move_own_plus X G c, hf_no_Move_own_low X G c, hf_no_Move_own_high X G c, hf_d_Move___init__ X G c, hf_ow_Ratio___add__ X G c, hf_sf_Ratio X G c, hf_m_Ratio_over X G c, hf_d_Move_free X G c, hf_cm_Ratio_greatest X G c, hf_cm_Ratio_least X G c, hf_d_Move_held X G c, hf_m_Move_free X G c, hf_m_Move_held X G c, hf_d_Move_at X G c, hf_g_require_move X G c, hf_k_require_move X G c, hf_p_Move_plus X G c, hf_ow_Ratio___mul__ X G c, hf_oi_Ratio___mul__ X G c, hf_p_Move_divisor X G c, hf_m_Move_at X G c, hf_mk_Move X G c, hf_d_Move_then X G c, hf_d_Move_added X G c, hf_x_InvalidCount X G c, hf_g_InvalidCount X G c, hf_m_Move_added X G c, hf_i_MOST_TIMES X G c, hf_x_TooMany X G c, hf_g_TooMany X G c, hf_n_range X G c, hf_m_Move_then X G c, hf_d_Move_done X G c, hf_ow_Ratio___eq__ X G c, hf_ne_Ratio X G c, hf_mo_Ratio X G c, hf_d_Move___eq__ X G c, hf_g__law_draw X G c, hf_k__law_draw X G c, hf_d_law_choice X G c, hf_d_law_plain X G c, hf_g__law_plain X G c, hf_k__law_plain X G c, hf_d_law_sum X G c, hf_d_law_less X G c, hf_g__law_choice X G c, hf_k__law_choice X G c, hf_d_law_fraction X G c, hf_d_law_real X G c, hf_n_repr X G c, hf_d_law_is X G c, hf_d_law_over X G c, hf_g__law_fraction X G c, hf_k__law_fraction X G c, hf_g__law_less X G c, hf_k__law_less X G c, hf_d_law_move X G c, hf_g__law_sum X G c, hf_k__law_sum X G c, hf_g__law_over X G c, hf_k__law_over X G c, hf_d_law_at X G c, hf_g__law_real X G c, hf_k__law_real X G c, hf_d_law_made X G c, hf_g__law_is X G c, hf_k__law_is X G c, hf_p_Move_low X G c, hf_p_Move_high X G c, hf_d_law_is_move X G c, hf_d_law_near X G c, hf_g__law_at X G c, hf_k__law_at X G c, hf_d_law_then X G c, hf_d_law_raised X G c, hf_g__law_made X G c, hf_k__law_made X G c, hf_g__law_then X G c, hf_k__law_then X G c, hf_g__law_is_move X G c, hf_k__law_is_move X G c, hf_g__law_near X G c, hf_k__law_near X G c, hf_ow_Move___eq__ X G c, hf_ne_Move X G c, hf_mo_Move X G c, hf_d_law_then_right X G c, hf_m_Move_done X G c, hf_g__law_raised X G c, hf_k__law_raised X G c, hf_d_law_done_right X G c, hf_d_law_refused_right X G c, hf_g__law_move X G c, hf_k__law_move X G c, hf_g__law_then_right X G c, hf_k__law_then_right X G c, hf_g__law_done_right X G c, hf_k__law_done_right X G c, hf_n_all X G c, hf_g__law_refused_right X G c, hf_k__law_refused_right X G c, hf_d_law_right X G c, hf_d_law_draw X G c, hf_n_divmod X G c, hf_n_max X G c, hf_n_min X G c, hf_g__law_rng X G c, hf_k__law_rng X G c, hf_g__law_right X G c, hf_k__law_right X G c, hf_d_law_rng X G c, hf_repK X G c, hf_d_law_told X G c, hf_g__law_told X G c, hf_k__law_told X G c, hf_exm X G c, hf_xf_InvalidMove X G c, hf_no_InvalidMove_part X G c, hf_xf_InvalidCount X G c, hf_no_InvalidCount_value X G c, hf_xf_TooMany X G c, hf_no_TooMany_kind X G c, hf_no_TooMany_limit X G c, rfl, tb, hf_tne X G c⟩
theorem law_def (c : SaysF ckL dnL tfL h K) : ∃ fd, FunD K "law" "law" (defArgs s_law) (defBody s_law) (defScope s_law) [] [] (He.ga K "law") fd := (c.def_ 56)
theorem law_glo (X : K.In h) (G : h.Ns mainGlobals mg) (c : SaysF ckL dnL tfL h K) : mg "law" = some (.ref (He.ga K "law")) := He.glo_ok X G (c.at_ 135)
end
end DL
set_option maxHeartbeats 0
namespace DL
open PySem PySem.Spec PyProof.Rows L2
theorem tabs0 {cs : List (Addr × Str)} {H : Hp} (h : ∀ p ∈ cs, H p.1 = some (.tbl #[])) : LamX.Tabs cs H := fun p hp => ⟨#[], h p hp, True.intro, fun pos cv hc => by
  have z : codeAmong pos [] = some cv := hc
  cases z⟩
theorem law_G {w : World} {K : PySem.W.Frag} {h : Heap} {mg : Str → Option Value} {f : Addr} (X : K.In h) (G : h.Ns mainGlobals mg) (c : SaysF ckL dnL tfL h K) (hm : mg ("law" : Str) = some (.ref f)) : LawG PySem.Challenge.rw_fademodes_k13_whole_moves_behind_one_ano w K 17 63 mg f h := by
  have e := hm.symm.trans (law_glo X G c)
  cases e
  refine ⟨tfL.map (He.cT K), spLaw (LamX.Tabs (Tbs K)) K, c.tabs X, fun H a ns hl _ hT hS => ⟨a, ns, rfl, hS, by omega, tabs0 fun p hp => ?_, fun _ => rfl⟩, fun base _ _ tb => ?_⟩
  · obtain ⟨x, hx, rfl⟩ := List.mem_map.mp (show p ∈ lamOf.map _ from hp)
    exact hT (He.cT K (x, none)) (List.mem_map_of_mem (List.mem_map_of_mem hx))
  · obtain ⟨fd, F⟩ := law_def c
    exact ok_law (fx_of X G c fun x hx => tb (He.cT K (x, none)) (List.mem_map_of_mem (List.mem_map_of_mem hx))) F
/-! ### the head -/
def names : List Str := (R13.prog.main.scope.names.map (·.1)).filter (fun x => decide (x ≠ "law") && decide (x ≠ "__name__"))
abbrev hk : PySem.W.Hook := hookF 5 ckL dnL tfL
def ob (s : PySem.W.SharedT) : AlF := obsF 5 ckL dnL tfL (HandSHeadRun.getT s)
theorem ob_eq (s : PySem.W.SharedT) : ob s = hk.obs s.abs := obsF_eq (HandSHeadRun.getT_eq s)
theorem run (w : World) : HandSHeadRun.RunEq R13 (PySem.W.view R13.prog [44]) hk ob 20000 names w := by
  intro os
  kernel_rfl
end DL
open PySem PySem.W PySem.Calls PyProof.Rows in
theorem PySem.Challenge.cw_fademodes_k13_whole_moves_behind_one_ano_holds : PySem.Challenge.rw_fademodes_k13_whole_moves_behind_one_ano.Holds := by
  w_on; o_law
  refine HandSHeadRun.head_any (r := OpenLaw.row PySem.Challenge.rw_fademodes_k13_whole_moves_behind_one_ano) (q := view (OpenLaw.row PySem.Challenge.rw_fademodes_k13_whole_moves_behind_one_ano).prog [44]) (H := DL.hk) (ob := DL.ob) (M := 20000) (loose := DL.names) (d := HandSHeadRun.topDef (OpenLaw.row PySem.Challenge.rw_fademodes_k13_whole_moves_behind_one_ano).prog 44) (kwd := []) DL.ob_eq
    (by kernel_rfl) (fun s => by kernel_rfl) DL.run (by kernel_rfl) (by kernel_rfl) (by kernel_rfl) (by rfl) (by first | assumption | decide +kernel) (by decide +kernel) ⟨rfl, rfl, rfl, rfl, rfl, by decide +kernel⟩ ?hw ?hc
  case hw => w_witness2
  case hc =>
    refine DL.walk_ofG (l := PySem.Challenge.rw_fademodes_k13_whole_moves_behind_one_ano) (n := 63) (k := 17) rfl (by decide) (by kernel_rfl) ⟨rfl, by decide, by decide⟩ ?F
    intro w mg fa h Y G hm0
    obtain ⟨K, KX, c⟩ := Y
    have hm : mg ("law" : PySem.Str) = some (.ref fa) := by
      have e : (HandSHeadRun.topDef (OpenLaw.row PySem.Challenge.rw_fademodes_k13_whole_moves_behind_one_ano).prog 44).name = ("law" : PySem.Str) := by kernel_rfl
      rw [← e]
      exact hm0
    exact ⟨K, KX, DL.law_G KX G c hm⟩
