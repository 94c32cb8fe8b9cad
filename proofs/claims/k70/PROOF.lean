import PyProof.Rows.All
import Wide.All
import OpenK.AllK
import Wide.FinOn
import HandS.ForMost
import HandS.IsInst
import HandS.Gcd
import HandS.Zip
import HandS.Style
import HandS.Codes
import HandS.Wide
import HandS.Walk
import HandS.SortRule
import HandS.SortOrd
import PySem.Challenge.RW_protestproof_k70_whole_rankings_and_lowe
set_option Elab.async false
set_option linter.all false
set_option maxRecDepth 100000
set_option maxHeartbeats 4000000
/-! The frame: immutable data as PyData, evaluation judgements that speak of data alone. -/
namespace Fw
open PySem L2

/-! ### data that stays -/
section
variable {K : PySem.W.Frag} {H H' : Hp}
theorem rd_mono {a : Addr} {u : HO} (s : Same H H') (h : Rd H a u) : Rd H' a u := by
  rcases h with h | ⟨o, h⟩
  · exact .inl (s _ _ h)
  · exact .inr ⟨o, s _ _ h⟩
theorem sql_mono {a : Addr} {xs : List V} (s : Same H H') (h : SqL K H a xs) : SqL K H' a xs := by
  rcases h with h | h
  · exact .inl (rd_mono s h)
  · exact .inr h
theorem sqt_mono {a : Addr} {xs : List V} (s : Same H H') (h : SqT K H a xs) : SqT K H' a xs := by
  rcases h with h | h
  · exact .inl (rd_mono s h)
  · exact .inr h
mutual
theorem dp_mono (s : Same H H') : ∀ (d : PyData) (v : V), Dp K H v d → Dp K H' v d
  | .none, _, h => by cases h; exact .non
  | .bool b, _, h => by cases h; exact .bl b
  | .int i, _, h => by cases h; exact .int i
  | .str x, _, h => by cases h; exact .str x
  | .list ds, _, h => by
    cases h with
    | lst hs ha => exact .lst (sql_mono s hs) (dpa_mono s ds _ ha)
  | .tuple ds, _, h => by
    cases h with
    | tup hs ha => exact .tup (sqt_mono s hs) (dpa_mono s ds _ ha)
  | .dict _, _, h => by cases h
theorem dpa_mono (s : Same H H') : ∀ (ds : List PyData) (vs : List V), DpAll K H vs ds → DpAll K H' vs ds
  | [], _, h => by cases h; exact .nil
  | d :: ds, _, h => by
    cases h with
    | cons h1 h2 => exact .cons (dp_mono s d _ h1) (dpa_mono s ds _ h2)
end
theorem dpa_len : ∀ {ds : List PyData} {vs : List V}, DpAll K H vs ds → vs.length = ds.length
  | [], _, h => by cases h; rfl
  | _ :: _, _, h => by
    cases h with
    | cons _ h2 => rw [List.length_cons, List.length_cons, dpa_len h2]
theorem dpa_get : ∀ {ds : List PyData} {vs : List V} {i : Nat} {v : V}, DpAll K H vs ds → vs[i]? = some v → ∃ d, ds[i]? = some d ∧ Dp K H v d
  | [], _, i, v, h, e => by cases h; simp at e
  | d :: ds, _, 0, v, h, e => by
    cases h with
    | cons h1 h2 => simp at e; subst e; exact ⟨d, rfl, h1⟩
  | d :: ds, _, i + 1, v, h, e => by
    cases h with
    | cons h1 h2 =>
      obtain ⟨d', e', h'⟩ := dpa_get (i := i) h2 (by simpa using e)
      exact ⟨d', by simpa using e', h'⟩
theorem dpa_get' : ∀ {ds : List PyData} {vs : List V} {i : Nat} {d : PyData}, DpAll K H vs ds → ds[i]? = some d → ∃ v, vs[i]? = some v ∧ Dp K H v d
  | [], _, i, v, h, e => by simp at e
  | d :: ds, _, 0, v, h, e => by
    cases h with
    | cons h1 h2 => simp at e; subst e; exact ⟨_, rfl, h1⟩
  | d :: ds, _, i + 1, v, h, e => by
    cases h with
    | cons h1 h2 =>
      obtain ⟨d', e', h'⟩ := dpa_get' (i := i) h2 (by simpa using e)
      exact ⟨d', by simpa using e', h'⟩
theorem dpa_app : ∀ {ds es : List PyData} {vs ws : List V}, DpAll K H vs ds → DpAll K H ws es → DpAll K H (vs ++ ws) (ds ++ es)
  | [], _, _, _, h, g => by cases h; exact g
  | _ :: _, _, _, _, h, g => by
    cases h with
    | cons h1 h2 => exact .cons h1 (dpa_app h2 g)
theorem dpa_snoc {ds : List PyData} {vs : List V} {d : PyData} {v : V} (h : DpAll K H vs ds) (g : Dp K H v d) : DpAll K H (vs ++ [v]) (ds ++ [d]) := dpa_app h (.cons g .nil)
theorem dpa_rev : ∀ {ds : List PyData} {vs : List V}, DpAll K H vs ds → DpAll K H vs.reverse ds.reverse
  | [], _, h => by cases h; exact .nil
  | _ :: _, _, h => by
    cases h with
    | cons h1 h2 =>
      rw [List.reverse_cons, List.reverse_cons]
      exact dpa_snoc (dpa_rev h2) h1
theorem dpa_ints : ∀ {ns : List Int} {vs : List V}, DpAll K H vs (ns.map PyData.int) → vs = ns.map V.int
  | [], _, h => by cases h; rfl
  | n :: ns, _, h => by
    rw [List.map_cons] at h
    cases h with
    | cons h1 h2 =>
      cases h1
      rw [List.map_cons, dpa_ints h2]
theorem dpa_of_ints (K : PySem.W.Frag) (H : Hp) : ∀ ns : List Int, DpAll K H (ns.map V.int) (ns.map PyData.int)
  | [] => .nil
  | n :: ns => .cons (.int n) (dpa_of_ints K H ns)
theorem dpa_bools : ∀ {bs : List Bool} {vs : List V}, DpAll K H vs (bs.map PyData.bool) → vs = bs.map V.bl
  | [], _, h => by cases h; rfl
  | n :: ns, _, h => by
    rw [List.map_cons] at h
    cases h with
    | cons h1 h2 =>
      cases h1
      rw [List.map_cons, dpa_bools h2]
theorem dpa_strs : ∀ {xs : List Str} {vs : List V}, DpAll K H vs (xs.map PyData.str) → vs = xs.map V.str
  | [], _, h => by cases h; rfl
  | n :: ns, _, h => by
    rw [List.map_cons] at h
    cases h with
    | cons h1 h2 =>
      cases h1
      rw [List.map_cons, dpa_strs h2]
theorem dpa_of_strs (K : PySem.W.Frag) (H : Hp) : ∀ ns : List Str, DpAll K H (ns.map V.str) (ns.map PyData.str)
  | [] => .nil
  | n :: ns => .cons (.str n) (dpa_of_strs K H ns)
end

/-! ### the heap without what may change -/
def cut (ms : List Addr) (H : Hp) : Hp := fun a => if a ∈ ms then none else H a
theorem cut_out {ms : List Addr} {H : Hp} {a : Addr} (h : a ∉ ms) : cut ms H a = H a := by unfold cut; rw [if_neg h]
theorem cut_in {ms : List Addr} {H : Hp} {a : Addr} (h : a ∈ ms) : cut ms H a = none := by unfold cut; rw [if_pos h]
theorem cut_le {ms : List Addr} {H : Hp} : Same (cut ms H) H := fun a o e => by
  by_cases h : a ∈ ms
  · rw [cut_in h] at e; cases e
  · rwa [cut_out h] at e
theorem cut_cons {ms : List Addr} {H : Hp} {l : Addr} : Same (cut (l :: ms) H) (cut ms H) := fun a o e => by
  by_cases h : a ∈ l :: ms
  · rw [cut_in h] at e; cases e
  · rw [cut_out h] at e
    rw [cut_out fun z => h (List.mem_cons_of_mem _ z)]
    exact e
/-- what is outside of ws stays -/
def XW (ws : List Addr) (H H' : Hp) : Prop := ∀ a o, a ∉ ws → H a = some o → H' a = some o
theorem XW.refl {ws : List Addr} (H : Hp) : XW ws H H := fun _ _ _ e => e
theorem XW.trans {ws : List Addr} {H H1 H2 : Hp} (a : XW ws H H1) (b : XW ws H1 H2) : XW ws H H2 := fun x o n e => b x o n (a x o n e)
theorem XW.of_same {ws : List Addr} {H H' : Hp} (s : Same H H') : XW ws H H' := fun a o _ e => s a o e
theorem XW.cut {ws ms : List Addr} {H H' : Hp} (x : XW ws H H') (sub : ∀ a ∈ ws, a ∈ ms) : Same (cut ms H) (cut ms H') := fun a o e => by
  by_cases h : a ∈ ms
  · rw [cut_in h] at e; cases e
  · rw [cut_out h] at e ⊢
    exact x a o (fun z => h (sub a z)) e
/-- a new object may be put where nothing stood -/
theorem XW.put {ws : List Addr} {H H' : Hp} {p : Addr} {o : HO} (x : XW ws H H') (h : H p = none) : XW ws H (upd H' p o) := fun a u n e => by
  rw [upd_ne (ne_of_none e h)]
  exact x a u n e
theorem XW.same {H H' : Hp} (x : XW [] H H') : Same H H' := fun a o e => x a o (by simp) e
def Live (ms : List Addr) (H : Hp) : Prop := ∀ a ∈ ms, ∃ o, H a = some o
theorem Live.fresh {ms : List Addr} {H : Hp} {p : Addr} (l : Live ms H) (h : H p = none) : p ∉ ms := fun z => by
  obtain ⟨o, e⟩ := l p z
  rw [e] at h; cases h
theorem Live.same {ms : List Addr} {H H' : Hp} (l : Live ms H) (s : Same H H') : Live ms H' := fun a z => by
  obtain ⟨o, e⟩ := l a z
  exact ⟨o, s _ _ e⟩
theorem Live.put {ms : List Addr} {H : Hp} {p : Addr} {o : HO} (l : Live ms H) : Live (p :: ms) (upd H p o) := fun a z => by
  by_cases h : a = p
  · subst h; exact ⟨o, upd_same⟩
  · rw [upd_ne h]
    rcases List.mem_cons.mp z with e | e
    · exact absurd e h
    · exact l a e
theorem Live.upd {ms : List Addr} {H : Hp} {p : Addr} {o : HO} (l : Live ms H) : Live ms (upd H p o) := fun a z => by
  by_cases h : a = p
  · subst h; exact ⟨o, upd_same⟩
  · rw [upd_ne h]; exact l a z
/-- data over the heap without ms stays where an object at a place of ms, or at a new place, is put -/
theorem cut_put {ms : List Addr} {H : Hp} {p : Addr} {o : HO} (h : p ∈ ms ∨ H p = none) : Same (cut ms H) (cut ms (upd H p o)) := fun a u e => by
  by_cases hm : a ∈ ms
  · rw [cut_in hm] at e; cases e
  · rw [cut_out hm] at e ⊢
    rw [upd_ne]
    · exact e
    · intro z
      subst z
      rcases h with h | h
      · exact hm h
      · rw [h] at e; cases e
/-- the same where p is left out besides -/
theorem cut_drop {ms : List Addr} {H : Hp} {p : Addr} {o : HO} : Same (cut (p :: ms) H) (cut (p :: ms) (upd H p o)) := cut_put (.inl List.mem_cons_self)

/-! ### slots -/
inductive Sl where
  | emp | dat (d : PyData) | raw (v : V)
def Sl.ok (K : PySem.W.Frag) (Hc : Hp) : Sl → V → Prop
  | .emp, _ => False
  | .dat d, v => Dp K Hc v d
  | .raw w, v => v = w
theorem Sl.ok.mono {K : PySem.W.Frag} {H H' : Hp} {s : Sl} {v : V} (h : s.ok K H v) (m : Same H H') : s.ok K H' v := by
  cases s with
  | emp => exact h
  | dat d => exact dp_mono m d v h
  | raw w => exact h
def SlO (K : PySem.W.Frag) (Hc : Hp) : Sl → Option V → Prop
  | .emp, _ => True
  | s, some v => s.ok K Hc v
  | _, none => False
theorem SlO.mono {K : PySem.W.Frag} {H H' : Hp} {s : Sl} {v : Option V} (h : SlO K H s v) (m : Same H H') : SlO K H' s v := by
  cases s <;> cases v <;> first
    | trivial
    | exact Sl.ok.mono (s := .dat _) h m
    | exact Sl.ok.mono (s := .raw _) h m
    | exact h
theorem SlO.of {K : PySem.W.Frag} {H : Hp} {s : Sl} {v : V} (h : s.ok K H v) : SlO K H s (some v) := by
  cases s <;> first | trivial | exact h
theorem SlO.back {K : PySem.W.Frag} {H : Hp} {s : Sl} {o : Option V} (h : SlO K H s o) (n : s ≠ .emp) : ∃ v, o = some v ∧ s.ok K H v := by
  cases s with
  | emp => exact absurd rfl n
  | dat d =>
    cases o with
    | none => exact False.elim h
    | some v => exact ⟨v, rfl, h⟩
  | raw w =>
    cases o with
    | none => exact False.elim h
    | some v => exact ⟨v, rfl, h⟩
/-- the slots hold what is told of them -/
inductive EnvOk (K : PySem.W.Frag) (Hc : Hp) : List Sl → St → Prop
  | nil : EnvOk K Hc [] []
  | cons {s : Sl} {o : Option V} {ρ : List Sl} {σ : St} : SlO K Hc s o → EnvOk K Hc ρ σ → EnvOk K Hc (s :: ρ) (o :: σ)
section
variable {K : PySem.W.Frag} {H H' : Hp}
theorem EnvOk.mono (m : Same H H') : ∀ {ρ : List Sl} {σ : St}, EnvOk K H ρ σ → EnvOk K H' ρ σ
  | _, _, .nil => .nil
  | _, _, .cons h t => .cons (h.mono m) (EnvOk.mono m t)
theorem EnvOk.get : ∀ {ρ : List Sl} {σ : St} {i : Nat} {s : Sl}, EnvOk K H ρ σ → ρ[i]? = some s → s ≠ .emp → ∃ v, σ[i]? = some (some v) ∧ s.ok K H v
  | _, _, _, _, .nil, e, _ => by simp at e
  | _, _, 0, s, .cons (o := o) h _, e, n => by
    have e' := Option.some.inj e
    rw [e'] at h
    obtain ⟨v, rfl, h2⟩ := h.back n
    exact ⟨v, rfl, h2⟩
  | _, _, i + 1, s, .cons _ t, e, n => by
    obtain ⟨v, h1, h2⟩ := EnvOk.get (i := i) t (by simpa using e) n
    exact ⟨v, by simpa using h1, h2⟩
theorem EnvOk.set {s : Sl} {o : Option V} (h : SlO K H s o) : ∀ {ρ : List Sl} {σ : St} (i : Nat), EnvOk K H ρ σ → EnvOk K H (ρ.set i s) (σ.set i o)
  | _, _, _, .nil => .nil
  | _, _, 0, .cons _ t => .cons h t
  | _, _, i + 1, .cons g t => .cons g (EnvOk.set h i t)
theorem EnvOk.emp : ∀ (n : Nat), EnvOk K H (List.replicate n .emp) (List.replicate n none)
  | 0 => .nil
  | n + 1 => .cons trivial (EnvOk.emp n)
theorem EnvOk.app : ∀ {ρ ρ' : List Sl} {σ σ' : St}, EnvOk K H ρ σ → EnvOk K H ρ' σ' → EnvOk K H (ρ ++ ρ') (σ ++ σ')
  | _, _, _, _, .nil, g => g
  | _, _, _, _, .cons h t, g => .cons h (EnvOk.app t g)
end
/-- less is told -/
inductive Le : List Sl → List Sl → Prop
  | nil : Le [] []
  | same {s : Sl} {a b : List Sl} : Le a b → Le (s :: a) (s :: b)
  | emp {s : Sl} {a b : List Sl} : Le a b → Le (.emp :: a) (s :: b)
theorem Le.refl : ∀ a : List Sl, Le a a
  | [] => .nil
  | _ :: a => .same (Le.refl a)
theorem EnvOk.le {K : PySem.W.Frag} {H : Hp} : ∀ {a b : List Sl} {σ : St}, Le a b → EnvOk K H b σ → EnvOk K H a σ
  | _, _, _, .nil, .nil => .nil
  | _, _, _, .same l, .cons h t => .cons h (EnvOk.le l t)
  | _, _, _, .emp l, .cons _ t => .cons trivial (EnvOk.le l t)
def wipeR (ρ : List Sl) : List Nat → List Sl
  | [] => ρ
  | v :: vs => (wipeR ρ vs).set v .emp
theorem EnvOk.wipe {K : PySem.W.Frag} {H : Hp} {ρ : List Sl} {σ : St} (h : EnvOk K H ρ σ) : ∀ vs : List Nat, EnvOk K H (wipeR ρ vs) (wipe σ vs)
  | [] => h
  | v :: vs => EnvOk.set (s := .emp) trivial v (EnvOk.wipe h vs)
inductive OkAll (K : PySem.W.Frag) (Hc : Hp) : List Sl → List V → Prop
  | nil : OkAll K Hc [] []
  | cons {s : Sl} {v : V} {ss : List Sl} {vs : List V} : s.ok K Hc v → OkAll K Hc ss vs → OkAll K Hc (s :: ss) (v :: vs)
theorem OkAll.mono {K : PySem.W.Frag} {H H' : Hp} (m : Same H H') : ∀ {ss : List Sl} {vs : List V}, OkAll K H ss vs → OkAll K H' ss vs
  | _, _, .nil => .nil
  | _, _, .cons h t => .cons (h.mono m) (OkAll.mono m t)
theorem OkAll.dats {K : PySem.W.Frag} {H : Hp} : ∀ {ds : List PyData} {vs : List V}, OkAll K H (ds.map .dat) vs → DpAll K H vs ds
  | [], _, h => by cases h; exact .nil
  | d :: ds, _, h => by
    rw [List.map_cons] at h
    cases h with
    | cons h1 h2 => exact .cons h1 (OkAll.dats h2)

/-! ### the world around: what may be written, what holds of it -/
structure Wd where
  ws : List Addr
  P : Hp → Prop
  sup : ∀ H H' : Hp, (∀ a ∈ ws, ∀ o, H a = some o → H' a = some o) → P H → P H'
  /-- what stands among the data all the while -/
  C : Hp → Prop := fun _ => True
  mono : ∀ H H' : Hp, Same H H' → C H → C H' := by intros; trivial
/-- nothing is written -/
def W0 : Wd := ⟨[], fun _ => True, fun _ _ _ _ => trivial, fun _ => True, fun _ _ _ _ => trivial⟩
/-- what one looks back to: the heap at the def's entry; the heap since which the data stands -/
structure Bs where
  h0 : Hp
  hb : Hp
structure At (K : PySem.W.Frag) (W : Wd) (ms : List Addr) (B : Bs) (ρ : List Sl) (σ : St) (H : Hp) : Prop where
  sub : ∀ a ∈ W.ws, a ∈ ms
  live : Live ms H
  env : EnvOk K (cut ms H) ρ σ
  p : W.P H
  xw : XW W.ws B.h0 H
  st : Same (cut ms B.hb) (cut ms H)
  c : W.C (cut ms H)
section
variable {K : PySem.W.Frag} {W : Wd} {ms : List Addr} {B : Bs} {H H' : Hp} {ρ ρ' : List Sl} {σ σ' : St}
theorem At.go (h : At K W ms B ρ σ H) (x : XW W.ws H H') (l : Live ms H') (p : W.P H') : At K W ms B ρ σ H' :=
  ⟨h.sub, l, h.env.mono (x.cut h.sub), p, h.xw.trans x, h.st.trans (x.cut h.sub), W.mono _ _ (x.cut h.sub) h.c⟩
theorem At.same (h : At K W ms B ρ σ H) (s : Same H H') : At K W ms B ρ σ H' :=
  h.go (.of_same s) (h.live.same s) (W.sup _ _ (fun a _ o e => s a o e) h.p)
theorem At.set (h : At K W ms B ρ σ H) {s : Sl} {v : V} (hv : s.ok K (cut ms H) v) (i : Nat) : At K W ms B (ρ.set i s) (σ.set i (some v)) H :=
  ⟨h.sub, h.live, h.env.set (SlO.of hv) i, h.p, h.xw, h.st, h.c⟩
theorem At.le (h : At K W ms B ρ σ H) (l : Le ρ' ρ) : At K W ms B ρ' σ H := ⟨h.sub, h.live, h.env.le l, h.p, h.xw, h.st, h.c⟩
theorem At.base (h : At K W ms B ρ σ H) : At K W ms ⟨H, H⟩ ρ σ H := ⟨h.sub, h.live, h.env, h.p, .refl H, Same.refl _, h.c⟩
/-- the data is looked at from here on -/
theorem At.re (h : At K W ms B ρ σ H) : At K W ms ⟨B.h0, H⟩ ρ σ H := ⟨h.sub, h.live, h.env, h.p, h.xw, Same.refl _, h.c⟩
theorem At.un (h : At K W ms B ρ σ H) (g : At K W ms ⟨B.h0, H⟩ ρ' σ' H') : At K W ms B ρ' σ' H' := ⟨g.sub, g.live, g.env, g.p, g.xw, h.st.trans g.st, g.c⟩
theorem At.wipe (h : At K W ms B ρ σ H) (vs : List Nat) : At K W ms B (wipeR ρ vs) (L2.wipe σ vs) H := ⟨h.sub, h.live, h.env.wipe vs, h.p, h.xw, h.st, h.c⟩
theorem At.fresh (h : At K W ms B ρ σ H) {l : Addr} (hl : H l = none) : B.h0 l = none ∧ l ∉ ms ∧ l ∉ W.ws := by
  have hm : l ∉ ms := h.live.fresh hl
  have hw : l ∉ W.ws := fun z => hm (h.sub l z)
  refine ⟨?_, hm, hw⟩
  cases q : B.h0 l with
  | none => rfl
  | some o =>
    rw [h.xw l o hw q] at hl
    cases hl
/-- a new object of one's own stands at l: told apart from the data -/
theorem At.own (h : At K W ms B ρ σ H) {l : Addr} {o : HO} (hl : H l = none) : At K W (l :: ms) B ρ σ (upd H l o) := by
  obtain ⟨h0, hm, hw⟩ := h.fresh hl
  have key : ∀ {G : Hp}, Same (cut ms G) (cut ms H) → Same (cut ms G) (cut (l :: ms) (upd H l o)) := fun {G} s a u e => by
    have e1 := s a u e
    have na : a ≠ l := fun z => by
      subst z
      rw [cut_out hm, hl] at e1; cases e1
    have nm : a ∉ ms := fun z => by rw [cut_in z] at e; cases e
    rw [cut_out nm] at e1
    rw [cut_out (by simp [na, nm]), upd_ne na]
    exact e1
  refine ⟨fun a z => List.mem_cons_of_mem _ (h.sub a z), h.live.put, h.env.mono (key (Same.refl _)), W.sup _ _ (fun a z o e => ?_) h.p, h.xw.put h0, fun a u e => key h.st a u (cut_cons a u e), W.mono _ _ (key (Same.refl _)) h.c⟩
  rw [upd_ne (fun q => by subst q; exact hw z)]
  exact e
/-- one's own object is written -/
theorem At.write (h : At K W ms B ρ σ H) {l : Addr} {o : HO} (hl : l ∈ ms) (hw : l ∉ W.ws) (h0 : B.h0 l = none) : At K W ms B ρ σ (upd H l o) := by
  refine ⟨h.sub, h.live.upd, h.env.mono (cut_put (.inl hl)), W.sup _ _ (fun a z o e => ?_) h.p, h.xw.put h0, h.st.trans (cut_put (.inl hl)), W.mono _ _ (cut_put (.inl hl)) h.c⟩
  rw [upd_ne (fun q => by subst q; exact hw z)]
  exact e
end

/-! ### what evaluates to what -/
def Ev (K : PySem.W.Frag) (W : Wd) (te : TE) (ρ : List Sl) (s : Sl) : Prop :=
  ∀ (ms : List Addr) (H0 : Bs) (σ : St) (H : Hp), At K W ms H0 ρ σ H → ∀ Q : VK, (∀ v H', At K W ms H0 ρ σ H' → XW W.ws H H' → s.ok K (cut ms H') v → Q v H') → te σ H Q
def EvT (K : PySem.W.Frag) (W : Wd) (tt : TT) (ρ : List Sl) (b : Bool) : Prop :=
  ∀ (ms : List Addr) (H0 : Bs) (σ : St) (H : Hp), At K W ms H0 ρ σ H → ∀ Q : Bool → Hp → Prop, (∀ H', At K W ms H0 ρ σ H' → XW W.ws H H' → Q b H') → tt σ H Q
def EvA (K : PySem.W.Frag) (W : Wd) (ta : TA) (ρ : List Sl) (ss : List Sl) : Prop :=
  ∀ (ms : List Addr) (H0 : Bs) (σ : St) (H : Hp), At K W ms H0 ρ σ H → ∀ Q : List V → Hp → Prop, (∀ vs H', At K W ms H0 ρ σ H' → XW W.ws H H' → OkAll K (cut ms H') ss vs → Q vs H') → ta σ H Q
/-- .. to one of several things -/
def En (K : PySem.W.Frag) (W : Wd) (te : TE) (ρ : List Sl) (Φ : Sl → Prop) : Prop :=
  ∀ (ms : List Addr) (H0 : Bs) (σ : St) (H : Hp), At K W ms H0 ρ σ H → ∀ Q : VK, (∀ s v H', Φ s → At K W ms H0 ρ σ H' → XW W.ws H H' → s.ok K (cut ms H') v → Q v H') → te σ H Q
def EnA (K : PySem.W.Frag) (W : Wd) (ta : TA) (ρ : List Sl) (Φ : List Sl → Prop) : Prop :=
  ∀ (ms : List Addr) (H0 : Bs) (σ : St) (H : Hp), At K W ms H0 ρ σ H → ∀ Q : List V → Hp → Prop, (∀ ss vs H', Φ ss → At K W ms H0 ρ σ H' → XW W.ws H H' → OkAll K (cut ms H') ss vs → Q vs H') → ta σ H Q
def EnT (K : PySem.W.Frag) (W : Wd) (tt : TT) (ρ : List Sl) (Φ : Bool → Prop) : Prop :=
  ∀ (ms : List Addr) (H0 : Bs) (σ : St) (H : Hp), At K W ms H0 ρ σ H → ∀ Q : Bool → Hp → Prop, (∀ b H', Φ b → At K W ms H0 ρ σ H' → XW W.ws H H' → Q b H') → tt σ H Q
end Fw

/-! The frame, 2: rules of evaluation. -/
namespace Fw
open PySem L2

section
variable {K : PySem.W.Frag} {W : Wd} {ms : List Addr} {H0 : Bs} {H H' : Hp} {ρ ρ' : List Sl} {σ σ' : St}
/-- back behind a stretch in which more stood apart -/
theorem At.back (h : At K W ms H0 ρ σ H) {ms' : List Addr} {B' : Bs} {ρ' : List Sl} {σ' : St} (g : At K W ms' B' ρ' σ' H') (e : B'.h0 = H) (hm : ∀ a ∈ ms, a ∈ ms') : At K W ms H0 ρ σ H' := by
  have x := g.xw
  rw [e] at x
  exact h.go x (fun a z => g.live a (hm a z)) g.p

def EvD (K : PySem.W.Frag) (W : Wd) (ta : TA) (ρ : List Sl) (ds : List PyData) : Prop :=
  ∀ (ms : List Addr) (H0 : Bs) (σ : St) (H : Hp), At K W ms H0 ρ σ H → ∀ Q : List V → Hp → Prop, (∀ vs H', At K W ms H0 ρ σ H' → XW W.ws H H' → DpAll K (cut ms H') vs ds → Q vs H') → ta σ H Q
abbrev Evd (K : PySem.W.Frag) (W : Wd) (te : TE) (ρ : List Sl) (d : PyData) : Prop := Ev K W te ρ (.dat d)

variable {ta tb tc te tx : TE} {tt t u : TT} {s s1 s2 s3 : Sl} {d e : PyData} {v x y z : V}

theorem ev_eq (h : Ev K W te ρ s) (e : s = s1) : Ev K W te ρ s1 := e ▸ h
theorem evd_eq (h : Evd K W te ρ d) (q : d = e) : Evd K W te ρ e := q ▸ h
theorem et_eq {a b : Bool} (h : EvT K W t ρ a) (e : a = b) : EvT K W t ρ b := e ▸ h
theorem ev_var {i : Nat} (h : ρ[i]? = some s) (n : s ≠ .emp) : Ev K W (tVar i) ρ s := fun ms H0 σ H a Q q => by
  obtain ⟨v, e, o⟩ := a.env.get h n
  exact ⟨v, e, q v H a (.refl H) o⟩
theorem evd_var {i : Nat} (h : ρ[i]? = some (.dat d)) : Evd K W (tVar i) ρ d := ev_var h (by intro q; cases q)
theorem evr_var {i : Nat} (h : ρ[i]? = some (.raw v)) : Ev K W (tVar i) ρ (.raw v) := ev_var h (by intro q; cases q)
theorem ev_c : Ev K W (tC v) ρ (.raw v) := fun ms H0 σ H a Q q => q v H a (.refl H) rfl
theorem ev_cd (h : ∀ H, Dp K H v d) : Evd K W (tC v) ρ d := fun ms H0 σ H a Q q => q v H a (.refl H) (h _)
theorem ev_int {i : Int} : Evd K W (tC (.int i)) ρ (.int i) := ev_cd fun _ => .int i
theorem ev_str {i : Str} : Evd K W (tC (.str i)) ρ (.str i) := ev_cd fun _ => .str i
theorem ev_bl {i : Bool} : Evd K W (tC (.bl i)) ρ (.bool i) := ev_cd fun _ => .bl i
theorem ev_non : Evd K W (tC .non) ρ .none := ev_cd fun _ => .non

/-- by values -/
def Rs (K : PySem.W.Frag) (r : R2) (s1 s2 s : Sl) : Prop :=
  ∀ (ms : List Addr) (H : Hp) (x y : V), Live ms H → s1.ok K (cut ms H) x → s2.ok K (cut ms H) y → ∀ Q : VK, (∀ v H', Same H H' → s.ok K (cut ms H') v → Q v H') → r x y H Q
theorem ev_op {r : R2} (ha : Ev K W ta ρ s1) (hb : Ev K W tb ρ s2) (hr : Rs K r s1 s2 s) : Ev K W (tOp r ta tb) ρ s := fun ms H0 σ H h Q q =>
  ha ms H0 σ H h _ fun x H1 h1 x1 o1 => hb ms H0 σ H1 h1 _ fun y H2 h2 x2 o2 =>
    hr ms H2 x y h2.live (o1.mono (x2.cut h2.sub)) o2 Q fun v H3 s3 o3 => q v H3 (h2.same s3) ((x1.trans x2).trans (.of_same s3)) o3
theorem rs_I0 {g : Int → Int → V} {i j : Int} (hd : ∀ H, Dp K H (g i j) d) : Rs K (rI0 g) (.dat (.int i)) (.dat (.int j)) (.dat d) := fun ms H x y _ hx hy Q q => by
  cases hx; cases hy
  exact ⟨i, j, rfl, rfl, q _ H (Same.refl H) (hd _)⟩
theorem rs_I {C : Int → Int → Prop} {g : Int → Int → V} {i j : Int} (hd : ∀ H, Dp K H (g i j) d) (hc : C i j) : Rs K (rI C g) (.dat (.int i)) (.dat (.int j)) (.dat d) := fun ms H x y _ hx hy Q q => by
  cases hx; cases hy
  exact ⟨i, j, rfl, rfl, hc, q _ H (Same.refl H) (hd _)⟩
theorem ev_add {i j : Int} (ha : Evd K W ta ρ (.int i)) (hb : Evd K W tb ρ (.int j)) : Evd K W (tOp (rI0 fun i j => .int (i + j)) ta tb) ρ (.int (i + j)) := ev_op ha hb (rs_I0 fun _ => .int _)
theorem ev_sub {i j : Int} (ha : Evd K W ta ρ (.int i)) (hb : Evd K W tb ρ (.int j)) : Evd K W (tOp (rI0 fun i j => .int (i - j)) ta tb) ρ (.int (i - j)) := ev_op ha hb (rs_I0 fun _ => .int _)
theorem ev_mul {i j : Int} (ha : Evd K W ta ρ (.int i)) (hb : Evd K W tb ρ (.int j)) (hc : CMul i j) : Evd K W (tOp (rI CMul fun i j => .int (i * j)) ta tb) ρ (.int (i * j)) := ev_op ha hb (rs_I (fun _ => .int _) hc)
theorem ev_mulW {i j : Int} (ha : Evd K W ta ρ (.int i)) (hb : Evd K W tb ρ (.int j)) (hc : CMulW i j) : Evd K W (tOp (rI CMulW fun i j => .int (i * j)) ta tb) ρ (.int (i * j)) := ev_op ha hb (rs_I (fun _ => .int _) hc)
theorem ev_divW {i j : Int} (ha : Evd K W ta ρ (.int i)) (hb : Evd K W tb ρ (.int j)) (hc : CDivW i j) : Evd K W (tOp (rI CDivW fun i j => .int (i / j)) ta tb) ρ (.int (i / j)) := ev_op ha hb (rs_I (fun _ => .int _) hc)
theorem ev_div {i j : Int} (ha : Evd K W ta ρ (.int i)) (hb : Evd K W tb ρ (.int j)) (hc : CDiv i j) : Evd K W (tOp (rI CDiv fun i j => .int (i / j)) ta tb) ρ (.int (i / j)) := ev_op ha hb (rs_I (fun _ => .int _) hc)
theorem ev_mod {i j : Int} (ha : Evd K W ta ρ (.int i)) (hb : Evd K W tb ρ (.int j)) (hc : 0 < j) : Evd K W (tOp (rI (fun _ j => 0 < j) fun i j => .int (i % j)) ta tb) ρ (.int (i % j)) := ev_op ha hb (rs_I (C := fun _ j => 0 < j) (fun _ => .int _) hc)
theorem ev_pow {i j : Int} (ha : Evd K W ta ρ (.int i)) (hb : Evd K W tb ρ (.int j)) (hc : CPow i j) : Evd K W (tOp (rI CPow fun i j => .int (i ^ j.toNat)) ta tb) ρ (.int (i ^ j.toNat)) := ev_op ha hb (rs_I (fun _ => .int _) hc)
theorem ev_lt {i j : Int} (ha : Evd K W ta ρ (.int i)) (hb : Evd K W tb ρ (.int j)) : Evd K W (tOp (rI0 fun i j => .bl (decide (i < j))) ta tb) ρ (.bool (decide (i < j))) := ev_op ha hb (rs_I0 fun _ => .bl _)
theorem ev_le {i j : Int} (ha : Evd K W ta ρ (.int i)) (hb : Evd K W tb ρ (.int j)) : Evd K W (tOp (rI0 fun i j => .bl (decide (i ≤ j))) ta tb) ρ (.bool (decide (i ≤ j))) := ev_op ha hb (rs_I0 fun _ => .bl _)
theorem ev_gt {i j : Int} (ha : Evd K W ta ρ (.int i)) (hb : Evd K W tb ρ (.int j)) : Evd K W (tOp (rI0 fun i j => .bl (decide (j < i))) ta tb) ρ (.bool (decide (j < i))) := ev_op ha hb (rs_I0 fun _ => .bl _)
theorem ev_ge {i j : Int} (ha : Evd K W ta ρ (.int i)) (hb : Evd K W tb ρ (.int j)) : Evd K W (tOp (rI0 fun i j => .bl (decide (j ≤ i))) ta tb) ρ (.bool (decide (j ≤ i))) := ev_op ha hb (rs_I0 fun _ => .bl _)
theorem dec_int {i j : Int} : decide (V.int i = V.int j) = decide (i = j) := by
  by_cases h : i = j
  · subst h; rw [decide_eq_true rfl, decide_eq_true rfl]
  · rw [decide_eq_false h, decide_eq_false fun q => h (by injection q)]
theorem dec_str {i j : Str} : decide (V.str i = V.str j) = decide (i = j) := by
  by_cases h : i = j
  · subst h; rw [decide_eq_true rfl, decide_eq_true rfl]
  · rw [decide_eq_false h, decide_eq_false fun q => h (by injection q)]
theorem ev_eqI {i j : Int} (ha : Evd K W ta ρ (.int i)) (hb : Evd K W tb ρ (.int j)) : Evd K W (tOp rEq ta tb) ρ (.bool (decide (i = j))) := ev_op ha hb fun ms H x y _ hx hy Q q => by
  cases hx; cases hy
  exact ⟨rfl, q _ H (Same.refl H) (by rw [dec_int]; exact .bl _)⟩
theorem ev_neI {i j : Int} (ha : Evd K W ta ρ (.int i)) (hb : Evd K W tb ρ (.int j)) : Evd K W (tOp rNe ta tb) ρ (.bool (!decide (i = j))) := ev_op ha hb fun ms H x y _ hx hy Q q => by
  cases hx; cases hy
  exact ⟨rfl, q _ H (Same.refl H) (by rw [dec_int]; exact .bl _)⟩
theorem ev_eqS {i j : Str} (ha : Evd K W ta ρ (.str i)) (hb : Evd K W tb ρ (.str j)) : Evd K W (tOp rEq ta tb) ρ (.bool (decide (i = j))) := ev_op ha hb fun ms H x y _ hx hy Q q => by
  cases hx; cases hy
  exact ⟨rfl, q _ H (Same.refl H) (by rw [dec_str]; exact .bl _)⟩
theorem ev_neS {i j : Str} (ha : Evd K W ta ρ (.str i)) (hb : Evd K W tb ρ (.str j)) : Evd K W (tOp rNe ta tb) ρ (.bool (!decide (i = j))) := ev_op ha hb fun ms H x y _ hx hy Q q => by
  cases hx; cases hy
  exact ⟨rfl, q _ H (Same.refl H) (by rw [dec_str]; exact .bl _)⟩
theorem atI_map {α β : Type} {xs : List α} {ys : List β} {R : α → β → Prop} (hl : xs.length = ys.length) (h : ∀ (i : Nat) b, ys[i]? = some b → ∃ a, xs[i]? = some a ∧ R a b) {i : Int} {b : β} (e : atI ys i = some b) : ∃ a, atI xs i = some a ∧ R a b := by
  unfold atI at e ⊢
  rw [hl]
  cases q : ixN ys.length i with
  | none => rw [q] at e; cases e
  | some j =>
    rw [q] at e
    exact h j b e
theorem rs_ixL {ds : List PyData} {i : Int} (h : atI ds i = some d) : Rs K (rIxL K) (.dat (.list ds)) (.dat (.int i)) (.dat d) := fun ms H x y _ hx hy Q q => by
  cases hy
  cases hx with
  | lst hs ha =>
    obtain ⟨v, e, g⟩ := atI_map (R := fun v d => Dp K (cut ms H) v d) (dpa_len ha) (fun i b e => dpa_get' ha e) h
    exact ⟨_, _, i, v, rfl, rfl, sql_mono cut_le hs, e, q v H (Same.refl H) g⟩
theorem rs_ixT {ds : List PyData} {i : Int} (h : atI ds i = some d) : Rs K (rIxT K) (.dat (.tuple ds)) (.dat (.int i)) (.dat d) := fun ms H x y _ hx hy Q q => by
  cases hy
  cases hx with
  | tup hs ha =>
    obtain ⟨v, e, g⟩ := atI_map (R := fun v d => Dp K (cut ms H) v d) (dpa_len ha) (fun i b e => dpa_get' ha e) h
    exact ⟨_, _, i, v, rfl, rfl, sqt_mono cut_le hs, e, q v H (Same.refl H) g⟩
theorem ev_ixL {ds : List PyData} {i : Int} (ha : Evd K W ta ρ (.list ds)) (hb : Evd K W tb ρ (.int i)) (h : atI ds i = some d) : Evd K W (tOp (rIxL K) ta tb) ρ d := ev_op ha hb (rs_ixL h)
theorem ev_ixT {ds : List PyData} {i : Int} (ha : Evd K W ta ρ (.tuple ds)) (hb : Evd K W tb ρ (.int i)) (h : atI ds i = some d) : Evd K W (tOp (rIxT K) ta tb) ρ d := ev_op ha hb (rs_ixT h)
theorem ev_eqD (ha : Evd K W ta ρ d) (hb : Evd K W tb ρ e) (sd : SeqAt.shaped d = true) (se : SeqAt.shaped e = true) : Evd K W (tOp (rEqD K) ta tb) ρ (.bool (PyData.eqv d e)) := ev_op ha hb fun ms H x y _ hx hy Q q =>
  ⟨d, e, dp_mono cut_le _ _ hx, dp_mono cut_le _ _ hy, sd, se, q _ H (Same.refl H) (.bl _)⟩
theorem ev_neD (ha : Evd K W ta ρ d) (hb : Evd K W tb ρ e) (sd : SeqAt.shaped d = true) (se : SeqAt.shaped e = true) : Evd K W (tOp (rNeD K) ta tb) ρ (.bool (!PyData.eqv d e)) := ev_op ha hb fun ms H x y _ hx hy Q q =>
  ⟨d, e, dp_mono cut_le _ _ hx, dp_mono cut_le _ _ hy, sd, se, q _ H (Same.refl H) (.bl _)⟩

/-! tests and truth -/
theorem et_test {b : Bool} (h : Evd K W te ρ (.bool b)) : EvT K W (tTest te) ρ b := fun ms H0 σ H a Q q => h ms H0 σ H a _ fun v H1 h1 x1 o1 => by
  cases o1
  exact ⟨b, rfl, q H1 h1 x1⟩
theorem et_B {b : Bool} (h : Evd K W te ρ (.bool b)) : EvT K W (tB te) ρ b := fun ms H0 σ H a Q q => h ms H0 σ H a _ fun v H1 h1 x1 o1 => by
  cases o1
  exact ⟨b, rfl, q H1 h1 x1⟩
theorem et_yes : EvT K W tYes ρ true := fun ms H0 σ H a Q q => q H a (.refl H)
theorem et_and {a b : Bool} (h1 : EvT K W t ρ a) (h2 : a = true → EvT K W u ρ b) : EvT K W (tAnd t u) ρ (a && b) := fun ms H0 σ H h Q q => h1 ms H0 σ H h _ fun H1 g1 x1 => by
  cases a with
  | true =>
    show u σ H1 Q
    exact h2 rfl ms H0 σ H1 g1 Q fun H2 g2 x2 => q H2 g2 (x1.trans x2)
  | false =>
    show Q false H1
    exact q H1 g1 x1
theorem et_or {a b : Bool} (h1 : EvT K W t ρ a) (h2 : a = false → EvT K W u ρ b) : EvT K W (tOr t u) ρ (a || b) := fun ms H0 σ H h Q q => h1 ms H0 σ H h _ fun H1 g1 x1 => by
  cases a with
  | true =>
    show Q true H1
    exact q H1 g1 x1
  | false =>
    show u σ H1 Q
    exact h2 rfl ms H0 σ H1 g1 Q fun H2 g2 x2 => q H2 g2 (x1.trans x2)
theorem et_not {a : Bool} (h : EvT K W t ρ a) : EvT K W (tNot t) ρ (!a) := fun ms H0 σ H g Q q => h ms H0 σ H g _ fun H1 g1 x1 => q H1 g1 x1
theorem ev_andV {a b : Bool} (h1 : Evd K W ta ρ (.bool a)) (h2 : a = true → Evd K W tb ρ (.bool b)) : Evd K W (tAndV ta tb) ρ (.bool (a && b)) := fun ms H0 σ H h Q q => h1 ms H0 σ H h _ fun v H1 g1 x1 o1 => by
  cases o1
  refine ⟨a, rfl, ?_⟩
  cases a with
  | true =>
    show tb σ H1 Q
    exact h2 rfl ms H0 σ H1 g1 Q fun v H2 g2 x2 o2 => q v H2 g2 (x1.trans x2) o2
  | false =>
    show Q (.bl false) H1
    exact q _ H1 g1 x1 (.bl _)
theorem ev_orV {a b : Bool} (h1 : Evd K W ta ρ (.bool a)) (h2 : a = false → Evd K W tb ρ (.bool b)) : Evd K W (tOrV ta tb) ρ (.bool (a || b)) := fun ms H0 σ H h Q q => h1 ms H0 σ H h _ fun v H1 g1 x1 o1 => by
  cases o1
  refine ⟨a, rfl, ?_⟩
  cases a with
  | true =>
    show Q (.bl true) H1
    exact q _ H1 g1 x1 (.bl _)
  | false =>
    show tb σ H1 Q
    exact h2 rfl ms H0 σ H1 g1 Q fun v H2 g2 x2 o2 => q v H2 g2 (x1.trans x2) o2
theorem ev_notV {a : Bool} (h : Evd K W ta ρ (.bool a)) : Evd K W (tNotV ta) ρ (.bool (!a)) := fun ms H0 σ H g Q q => h ms H0 σ H g _ fun v H1 g1 x1 o1 => by
  cases o1
  exact ⟨a, rfl, q _ H1 g1 x1 (.bl _)⟩
theorem ev_if {b : Bool} (h : EvT K W t ρ b) (h1 : b = true → Ev K W ta ρ s) (h2 : b = false → Ev K W tb ρ s) : Ev K W (tIf t ta tb) ρ s := fun ms H0 σ H g Q q => h ms H0 σ H g _ fun H1 g1 x1 => by
  cases b with
  | true =>
    show ta σ H1 Q
    exact h1 rfl ms H0 σ H1 g1 Q fun v H2 g2 x2 o2 => q v H2 g2 (x1.trans x2) o2
  | false =>
    show tb σ H1 Q
    exact h2 rfl ms H0 σ H1 g1 Q fun v H2 g2 x2 o2 => q v H2 g2 (x1.trans x2) o2
/-- a ≤ b ≤ c -/
theorem ev_chain {p p' : Int → Int → Bool} {i j k : Int} (ha : Evd K W ta ρ (.int i)) (hb : Evd K W tb ρ (.int j)) (hc : Evd K W tc ρ (.int k)) :
    Evd K W (tChain (rI0 fun i j => .bl (p i j)) (rI0 fun i j => .bl (p' i j)) ta tb tc) ρ (.bool (p i j && p' j k)) := fun ms H0 σ H g Q q =>
  ha ms H0 σ H g _ fun x H1 g1 x1 o1 => hb ms H0 σ H1 g1 _ fun y H2 g2 x2 o2 => by
    cases o1; cases o2
    refine ⟨i, j, rfl, rfl, _, rfl, ?_⟩
    cases e : p i j with
    | true =>
      refine iteT (hc ms H0 σ H2 g2 _ fun z H3 g3 x3 o3 => ?_)
      cases o3
      exact ⟨j, k, rfl, rfl, q _ H3 g3 ((x1.trans x2).trans x3) (by rw [e, Bool.true_and]; exact .bl _)⟩
    | false => exact iteF (q _ H2 g2 (x1.trans x2) (by rw [e, Bool.false_and]; exact .bl _))

/-! arguments, displays -/
theorem ed_nil : EvD K W tNil ρ [] := fun ms H0 σ H g Q q => q [] H g (.refl H) .nil
theorem ed_cons {tr : TA} {ds : List PyData} (h : Evd K W ta ρ d) (hr : EvD K W tr ρ ds) : EvD K W (tCons ta tr) ρ (d :: ds) := fun ms H0 σ H g Q q =>
  h ms H0 σ H g _ fun x H1 g1 x1 o1 => hr ms H0 σ H1 g1 _ fun xs H2 g2 x2 o2 => q _ H2 g2 (x1.trans x2) (.cons (o1.mono (x2.cut g2.sub)) o2)
theorem ea_nil : EvA K W tNil ρ [] := fun ms H0 σ H g Q q => q [] H g (.refl H) .nil
theorem ea_cons {tr : TA} {ss : List Sl} (h : Ev K W ta ρ s) (hr : EvA K W tr ρ ss) : EvA K W (tCons ta tr) ρ (s :: ss) := fun ms H0 σ H g Q q =>
  h ms H0 σ H g _ fun x H1 g1 x1 o1 => hr ms H0 σ H1 g1 _ fun xs H2 g2 x2 o2 => q _ H2 g2 (x1.trans x2) (.cons (o1.mono (x2.cut g2.sub)) o2)
/-- a new object of data -/
theorem Sl.new_tup {ms : List Addr} {H : Hp} {p : Addr} {vs : List V} {ds : List PyData} (l : Live ms H) (hp : H p = none) (h : DpAll K (cut ms H) vs ds) : (Sl.dat (.tuple ds)).ok K (cut ms (upd H p (.tup vs))) (.ref p) :=
  .tup (.inl (.inl (by rw [cut_out (l.fresh hp)]; exact upd_same))) (dpa_mono (cut_put (.inr hp)) _ _ h)
theorem Sl.new_lst {ms : List Addr} {H : Hp} {p : Addr} {vs : List V} {ds : List PyData} (l : Live ms H) (hp : H p = none) (h : DpAll K (cut ms H) vs ds) : (Sl.dat (.list ds)).ok K (cut ms (upd H p (.lst vs))) (.ref p) :=
  .lst (.inl (.inl (by rw [cut_out (l.fresh hp)]; exact upd_same))) (dpa_mono (cut_put (.inr hp)) _ _ h)
theorem same_put {H : Hp} {p : Addr} {o : HO} (h : H p = none) : Same H (upd H p o) := fun a u e => by
  rw [upd_ne (ne_of_none e h)]
  exact e
theorem le_line {n : Nat} (h : n ≤ 100000) : n ≤ sizeLine := Nat.le_trans h (by decide)
theorem ev_tup {ta : TA} {ds : List PyData} (h : EvD K W ta ρ ds) (hl : ds.length ≤ 100000) : Evd K W (tTup ta) ρ (.tuple ds) := fun ms H0 σ H g Q q => h ms H0 σ H g _ fun vs H1 g1 x1 o1 =>
  ⟨by rw [dpa_len o1]; exact le_line hl, fun p hp => q _ _ (g1.same (same_put hp)) (x1.trans (.of_same (same_put hp))) (Sl.new_tup g1.live hp o1)⟩
theorem ev_lst {ta : TA} {ds : List PyData} (h : EvD K W ta ρ ds) (hl : ds.length ≤ 100000) : Evd K W (tLst ta) ρ (.list ds) := fun ms H0 σ H g Q q => h ms H0 σ H g _ fun vs H1 g1 x1 o1 =>
  ⟨by rw [dpa_len o1]; exact le_line hl, fun p hp => q _ _ (g1.same (same_put hp)) (x1.trans (.of_same (same_put hp))) (Sl.new_lst g1.live hp o1)⟩

/-! built-ins, by values -/
def Rc (K : PySem.W.Frag) (r : List V → Hp → VK → Prop) (ds : List PyData) (s : Sl) : Prop :=
  ∀ (ms : List Addr) (H : Hp) (vs : List V), Live ms H → DpAll K (cut ms H) vs ds → ∀ Q : VK, (∀ v H', Same H H' → s.ok K (cut ms H') v → Q v H') → r vs H Q
theorem ev_cb {r : List V → Hp → VK → Prop} {ta : TA} {ds : List PyData} (h : EvD K W ta ρ ds) (hr : Rc K r ds s) : Ev K W (tCB r ta) ρ s := fun ms H0 σ H g Q q => h ms H0 σ H g _ fun vs H1 g1 x1 o1 =>
  hr ms H1 vs g1.live o1 Q fun v H2 s2 o2 => q v H2 (g1.same s2) (x1.trans (.of_same s2)) o2
theorem rc1 {r : List V → Hp → VK → Prop} (h : ∀ (ms : List Addr) (H : Hp) (v : V), Live ms H → Dp K (cut ms H) v d → ∀ Q : VK, (∀ v H', Same H H' → s.ok K (cut ms H') v → Q v H') → r [v] H Q) : Rc K r [d] s := fun ms H vs l o Q q => by
  cases o with
  | cons o1 o2 =>
    cases o2
    exact h ms H _ l o1 Q q
theorem rc2 {r : List V → Hp → VK → Prop} (h : ∀ (ms : List Addr) (H : Hp) (v w : V), Live ms H → Dp K (cut ms H) v d → Dp K (cut ms H) w e → ∀ Q : VK, (∀ v H', Same H H' → s.ok K (cut ms H') v → Q v H') → r [v, w] H Q) : Rc K r [d, e] s := fun ms H vs l o Q q => by
  cases o with
  | cons o1 o2 =>
    cases o2 with
    | cons o2 o3 =>
      cases o3
      exact h ms H _ _ l o1 o2 Q q
abbrev rLenQ (K : PySem.W.Frag) : List V → Hp → VK → Prop := fun xs H Q => ∃ p ys, xs = [.ref p] ∧ (SqL K H p ys ∨ SqT K H p ys) ∧ Q (.int ys.length) H
theorem ev_lenL {ds : List PyData} (h : Evd K W te ρ (.list ds)) : Evd K W (tCB (rLenQ K) (tCons te tNil)) ρ (.int (ds.length : Int)) := ev_cb (ed_cons h ed_nil) (rc1 fun ms H v l o Q q => by
  cases o with
  | lst hs ha => exact ⟨_, _, rfl, .inl (sql_mono cut_le hs), by rw [dpa_len ha]; exact q _ H (Same.refl H) (.int _)⟩)
theorem ev_lenT {ds : List PyData} (h : Evd K W te ρ (.tuple ds)) : Evd K W (tCB (rLenQ K) (tCons te tNil)) ρ (.int (ds.length : Int)) := ev_cb (ed_cons h ed_nil) (rc1 fun ms H v l o Q q => by
  cases o with
  | tup hs ha => exact ⟨_, _, rfl, .inr (sqt_mono cut_le hs), by rw [dpa_len ha]; exact q _ H (Same.refl H) (.int _)⟩)
abbrev rInt1 : List V → Hp → VK → Prop := fun xs H Q => (∃ i, xs = [.int i] ∧ Q (.int i) H) ∨ ∃ k, xs = [.bl k] ∧ Q (.int (if k then 1 else 0)) H
theorem ev_toInt {i : Int} (h : Evd K W te ρ (.int i)) : Evd K W (tCB rInt1 (tCons te tNil)) ρ (.int i) := ev_cb (ed_cons h ed_nil) (rc1 fun ms H v l o Q q => by
  cases o
  exact .inl ⟨_, rfl, q _ H (Same.refl H) (.int _)⟩)
abbrev rAbs1 : List V → Hp → VK → Prop := fun xs H Q => ∃ i, xs = [.int i] ∧ Q (.int (if i < 0 then -i else i)) H
theorem ev_abs {i : Int} (h : Evd K W te ρ (.int i)) : Evd K W (tCB rAbs1 (tCons te tNil)) ρ (.int (if i < 0 then -i else i)) := ev_cb (ed_cons h ed_nil) (rc1 fun ms H v l o Q q => by
  cases o
  exact ⟨_, rfl, q _ H (Same.refl H) (.int _)⟩)
abbrev rMin2 : List V → Hp → VK → Prop := fun xs H Q => ∃ i j, xs = [.int i, .int j] ∧ Q (.int (if j < i then j else i)) H
theorem ev_min2 {i j : Int} (h : Evd K W ta ρ (.int i)) (h' : Evd K W tb ρ (.int j)) : Evd K W (tCB rMin2 (tCons ta (tCons tb tNil))) ρ (.int (if j < i then j else i)) := ev_cb (ed_cons h (ed_cons h' ed_nil)) (rc2 fun ms H v w l o o' Q q => by
  cases o; cases o'
  exact ⟨_, _, rfl, q _ H (Same.refl H) (.int _)⟩)
theorem ev_gcd {i j : Int} (h : Evd K W ta ρ (.int i)) (h' : Evd K W tb ρ (.int j)) : Evd K W (tCB rGcd (tCons ta (tCons tb tNil))) ρ (.int ((Nat.gcd i.natAbs j.natAbs : Nat) : Int)) := ev_cb (ed_cons h (ed_cons h' ed_nil)) (rc2 fun ms H v w l o o' Q q => by
  cases o; cases o'
  exact ⟨_, _, rfl, q _ H (Same.refl H) (.int _)⟩)
theorem ev_sum {ds : List PyData} {ns : List Int} (h : Evd K W te ρ (.list ds)) (hn : ds = ns.map PyData.int) : Evd K W (tCB (rSum K) (tCons te tNil)) ρ (.int ns.sum) := ev_cb (ed_cons h ed_nil) (rc1 fun ms H v l o Q q => by
  subst hn
  cases o with
  | lst hs ha =>
    rw [dpa_ints ha] at hs
    exact ⟨_, ns, rfl, sql_mono cut_le hs, q _ H (Same.refl H) (.int _)⟩)
theorem ev_max {ds : List PyData} {ns : List Int} {m : Int} (h : Evd K W te ρ (.list ds)) (hn : ds = ns.map PyData.int) (hm : m ∈ ns) (hb : ∀ y ∈ ns, y ≤ m) : Evd K W (tCB (rMax K) (tCons te tNil)) ρ (.int m) := ev_cb (ed_cons h ed_nil) (rc1 fun ms H v l o Q q => by
  subst hn
  cases o with
  | lst hs ha =>
    rw [dpa_ints ha] at hs
    refine ⟨_, ns, rfl, sql_mono cut_le hs, List.length_pos_of_mem hm, fun m' h1 h2 => ?_⟩
    have e : m' = m := Int.le_antisymm (hb _ h1) (h2 _ hm)
    rw [e]
    exact q _ H (Same.refl H) (.int _))
theorem ev_min {ds : List PyData} {ns : List Int} {m : Int} (h : Evd K W te ρ (.list ds)) (hn : ds = ns.map PyData.int) (hm : m ∈ ns) (hb : ∀ y ∈ ns, m ≤ y) : Evd K W (tCB (rMin K) (tCons te tNil)) ρ (.int m) := ev_cb (ed_cons h ed_nil) (rc1 fun ms H v l o Q q => by
  subst hn
  cases o with
  | lst hs ha =>
    rw [dpa_ints ha] at hs
    refine ⟨_, ns, rfl, sql_mono cut_le hs, List.length_pos_of_mem hm, fun m' h1 h2 => ?_⟩
    have e : m' = m := Int.le_antisymm (h2 _ hm) (hb _ h1)
    rw [e]
    exact q _ H (Same.refl H) (.int _))
theorem ev_all {ds : List PyData} {bs : List Bool} (h : Evd K W te ρ (.list ds)) (hn : ds = bs.map PyData.bool) : Evd K W (tCB (rAll K) (tCons te tNil)) ρ (.bool (bs.all id)) := ev_cb (ed_cons h ed_nil) (rc1 fun ms H v l o Q q => by
  subst hn
  cases o with
  | lst hs ha =>
    rw [dpa_bools ha] at hs
    exact ⟨_, bs, rfl, sql_mono cut_le hs, q _ H (Same.refl H) (.bl _)⟩)
abbrev rTupOf (K : PySem.W.Frag) : List V → Hp → VK → Prop := fun xs H Q => ∃ p ys, xs = [.ref p] ∧ ((SqL K H p ys ∧ ∀ l, H l = none → Q (.ref l) (upd H l (.tup ys))) ∨ (SqT K H p ys ∧ Q (.ref p) H))
theorem ev_tupL {ds : List PyData} (h : Evd K W te ρ (.list ds)) : Evd K W (tCB (rTupOf K) (tCons te tNil)) ρ (.tuple ds) := ev_cb (ed_cons h ed_nil) (rc1 fun ms H v l o Q q => by
  cases o with
  | lst hs ha => exact ⟨_, _, rfl, .inl ⟨sql_mono cut_le hs, fun p hp => q _ _ (same_put hp) (Sl.new_tup l hp ha)⟩⟩)
abbrev rLstOf (K : PySem.W.Frag) : List V → Hp → VK → Prop := fun xs H Q => ∃ p ys, xs = [.ref p] ∧ (SqL K H p ys ∨ SqT K H p ys) ∧ ∀ l, H l = none → Q (.ref l) (upd H l (.lst ys))
theorem ev_lstL {ds : List PyData} (h : Evd K W te ρ (.list ds)) : Evd K W (tCB (rLstOf K) (tCons te tNil)) ρ (.list ds) := ev_cb (ed_cons h ed_nil) (rc1 fun ms H v l o Q q => by
  cases o with
  | lst hs ha => exact ⟨_, _, rfl, .inl (sql_mono cut_le hs), fun p hp => q _ _ (same_put hp) (Sl.new_lst l hp ha)⟩)

/-! isinstance -/
def tyName : PyData → String
  | .none => "NoneType" | .bool _ => "bool" | .int _ => "int" | .str _ => "str" | .list _ => "list" | .tuple _ => "tuple" | .dict _ => "dict"
theorem ty_of {H : Hp} {v : V} (h : Dp K H v d) : TyX K H v (.type (tyName d)) := by
  cases h with
  | non => exact .base .non
  | bl b => exact .base (.bl b)
  | int i => exact .base (.int i)
  | str x => exact .base (.str x)
  | lst hs _ =>
    rcases hs with (hs | ⟨o, hs⟩) | ⟨o, its, n, e, c, _⟩
    · exact .base (.lst hs)
    · exact .base (.frz hs)
    · exact .kList e c
  | tup hs _ =>
    rcases hs with (hs | ⟨o, hs⟩) | ⟨o, its, n, e, c, _⟩
    · exact .base (.tup hs)
    · exact .fTuple hs
    · exact .kTuple e c
theorem tyx_mono {ms : List Addr} {v : V} (h : Dp K (cut ms H) v d) : TyX K H v (.type (tyName d)) := ty_of (dp_mono cut_le _ _ h)
theorem ev_isi {T : String} {b : Bool} (h : Evd K W te ρ d) (hk : kitB (tyName d) T = some b) : Evd K W (tCB (rIsi K) (tCons te (tCons (tC (.ty T)) tNil))) ρ (.bool b) := fun ms H0 σ H g Q q =>
  h ms H0 σ H g _ fun v H1 g1 x1 o1 => ⟨v, .ty T, .type (tyName d), .type T, b, rfl, .ty T, tyx_mono o1, kit_ty hk, q _ H1 g1 x1 (.bl b)⟩
theorem ev_isi2 {T U : String} {b : Bool} (h : Evd K W te ρ d) (hk : PySem.W.kitAny K (.type (tyName d)) [.type T, .type U] = some b) : Evd K W (tCB (rIsiT K) (tCons te (tCons (tTup (tCons (tC (.ty T)) (tCons (tC (.ty U)) tNil))) tNil))) ρ (.bool b) := fun ms H0 σ H g Q q =>
  h ms H0 σ H g _ fun v H1 g1 x1 o1 => ⟨by show 2 ≤ sizeLine; decide, fun p hp => ⟨v, p, [.ty T, .ty U], .type (tyName d), [.type T, .type U], b, rfl, upd_same, .cons (.ty T) (.cons (.ty U) .nil),
    ty_of (dp_mono (Same.trans cut_le (same_put hp)) _ _ o1), hk, q _ _ (g1.same (same_put hp)) (x1.trans (.of_same (same_put hp))) (.bl b)⟩⟩
end
end Fw

/-! The frame, 3: targets, sources, comprehensions, loops, statements, defs. -/
namespace Fw
open PySem L2
open PyProof.Rows (envOfC)
open RZ (ItzT iZipA)

section
variable {K : PySem.W.Frag} {W : Wd} {ms : List Addr} {B : Bs} {H H' : Hp} {ρ ρ' ρ1 : List Sl} {σ σ' : St} {d : PyData} {ds : List PyData} {s : Sl} {v : V}
  {ta tb tc te tx tl : TE} {tt t u : TT} {wi : TI} {g : TG} {gs : TGs} {D : Ends} {ts ts' tz : TS}

/-! ### targets -/
def Diff (js : List Nat) (σ σ' : St) : Prop := σ'.length = σ.length ∧ ∀ i : Nat, i ∉ js → σ'[i]? = σ[i]?
theorem Diff.set (σ : St) (j : Nat) (o : Option V) : Diff [j] σ (σ.set j o) := ⟨List.length_set, fun i h => by
  rw [List.getElem?_set_ne]
  intro q
  exact h (by simp [q])⟩
theorem Diff.trans {σ1 σ2 σ3 : St} {js ks : List Nat} (a : Diff js σ1 σ2) (b : Diff ks σ2 σ3) : Diff (js ++ ks) σ1 σ3 :=
  ⟨b.1.trans a.1, fun i h => (b.2 i fun z => h (List.mem_append_right _ z)).trans (a.2 i fun z => h (List.mem_append_left _ z))⟩
theorem wipe_get (σ : St) (i : Nat) : ∀ vs : List Nat, (wipe σ vs)[i]? = if i ∈ vs then σ[i]?.map (fun _ => none) else σ[i]?
  | [] => by simp [wipe]
  | v :: vs => by
    show ((wipe σ vs).set v none)[i]? = _
    have ih := wipe_get σ i vs
    by_cases h : v = i
    · subst h
      rw [List.getElem?_set_self']
      rw [ih, if_pos List.mem_cons_self]
      by_cases hm : v ∈ vs
      · rw [if_pos hm]; cases σ[v]? <;> rfl
      · rw [if_neg hm]; cases σ[v]? <;> rfl
    · rw [List.getElem?_set_ne h, ih]
      have e : (i ∈ v :: vs) = (i ∈ vs) := by
        simp [Ne.symm h]
      simp only [e]
theorem wipe_diff {σ σ2 : St} {js vs : List Nat} (h : Diff js (wipe σ vs) σ2) (hj : ∀ j ∈ js, j ∈ vs) : wipe σ2 vs = wipe σ vs := by
  apply List.ext_getElem?
  intro i
  rw [wipe_get, wipe_get]
  by_cases hm : i ∈ vs
  · rw [if_pos hm, if_pos hm]
    have e : σ2.length = σ.length := by rw [h.1, wipe_length]
    by_cases hl : i < σ.length
    · have hl2 : i < σ2.length := by omega
      rw [List.getElem?_eq_getElem hl, List.getElem?_eq_getElem hl2]
      rfl
    · have hl2 : ¬ i < σ2.length := by omega
      rw [List.getElem?_eq_none (by omega), List.getElem?_eq_none (by omega)]
  · rw [if_neg hm, if_neg hm, h.2 i (fun z => hm (hj i z)), wipe_get, if_neg hm]
def Tg (K : PySem.W.Frag) (W : Wd) (g : TG) (js : List Nat) (d : PyData) (ρ ρ' : List Sl) : Prop :=
  ∀ (ms : List Addr) (B : Bs) (σ : St) (H : Hp) (v : V), At K W ms B ρ σ H → Dp K (cut ms H) v d → ∀ Q : St → Hp → Prop, (∀ σ', At K W ms B ρ' σ' H → Diff js σ σ' → Q σ' H) → g v σ H Q
def Tgs (K : PySem.W.Frag) (W : Wd) (g : TGs) (js : List Nat) (ds : List PyData) (ρ ρ' : List Sl) : Prop :=
  ∀ (ms : List Addr) (B : Bs) (σ : St) (H : Hp) (vs : List V), At K W ms B ρ σ H → DpAll K (cut ms H) vs ds → ∀ Q : St → Hp → Prop, (∀ σ', At K W ms B ρ' σ' H → Diff js σ σ' → Q σ' H) → g vs σ H Q
theorem tg_name {j : Nat} : Tg K W (gName j) [j] d ρ (ρ.set j (.dat d)) := fun ms B σ H v a o Q q => q _ (a.set (s := .dat d) o j) (Diff.set σ j _)
theorem tgs_nil : Tgs K W gNil [] [] ρ ρ := fun ms B σ H vs a o Q q => by
  cases o
  exact ⟨rfl, q σ a ⟨rfl, fun _ _ => rfl⟩⟩
theorem tgs_cons {js ks : List Nat} (h : Tg K W g js d ρ ρ1) (hs : Tgs K W gs ks ds ρ1 ρ') : Tgs K W (gCons g gs) (js ++ ks) (d :: ds) ρ ρ' := fun ms B σ H vs a o Q q => by
  cases o with
  | cons o1 o2 => exact ⟨_, _, rfl, h ms B σ H _ a o1 _ fun σ1 a1 d1 => hs ms B σ1 H _ a1 o2 Q fun σ2 a2 d2 => q σ2 a2 (d1.trans d2)⟩
theorem tg_tup {n : Nat} {js : List Nat} (h : Tgs K W gs js ds ρ ρ') (hn : ds.length = n) : Tg K W (gTup K n gs) js (.tuple ds) ρ ρ' := fun ms B σ H v a o Q q => by
  cases o with
  | tup hs ha => exact ⟨_, _, rfl, sqt_mono cut_le hs, by rw [dpa_len ha]; exact hn, h ms B σ H _ a ha Q q⟩

/-! ### sources -/
def Stream (K : PySem.W.Frag) (J : It) (ms : List Addr) (H' : Hp) (ds : List PyData) : Prop :=
  ∃ (G : Hp → Prop) (Y : Nat → Hp → V → Hp → Prop), Walk J ds.length G Y ∧ ∀ (ms' : List Addr) (H2 : Hp), Same (cut ms H') (cut ms' H2) → G H2 ∧
    ∀ (i : Nat) (x : V) (H3 : Hp), Live ms' H2 → Y i H2 x H3 → Same H2 H3 ∧ ∀ d, ds[i]? = some d → Dp K (cut ms' H3) x d
def Src (K : PySem.W.Frag) (W : Wd) (wi : TI) (ρ : List Sl) (ds : List PyData) : Prop :=
  ∀ (ms : List Addr) (B : Bs) (σ : St) (H : Hp), At K W ms B ρ σ H → ∀ R : It → Hp → Prop, (∀ J H', At K W ms B ρ σ H' → XW W.ws H H' → Stream K J ms H' ds → R J H') → wi σ H R
theorem src_list (h : Evd K W tl ρ (.list ds)) : Src K W (iList K tl) ρ ds := fun ms B σ H a R q => h ms B σ H a _ fun v H1 h1 x1 o1 => by
  cases o1 with
  | @lst p vs _ hs ha =>
    refine ⟨p, rfl, ⟨vs, sql_mono cut_le hs⟩, q _ H1 h1 x1 ⟨fun H => SqL K H p vs, YAt vs, ?_, fun ms' H2 s => ⟨sql_mono (s.trans cut_le) hs, fun i x H3 l y => ?_⟩⟩⟩
    · rw [← dpa_len ha]; exact walk_list
    · obtain ⟨rfl, e⟩ := y
      refine ⟨Same.refl _, fun d hd => ?_⟩
      obtain ⟨d', e', o⟩ := dpa_get ha e
      rw [hd] at e'
      cases e'
      exact dp_mono s _ _ o
theorem src_tup (h : Evd K W tl ρ (.tuple ds)) : Src K W (iTup K tl) ρ ds := fun ms B σ H a R q => h ms B σ H a _ fun v H1 h1 x1 o1 => by
  cases o1 with
  | @tup p vs _ hs ha =>
    refine ⟨p, rfl, ⟨vs, sqt_mono cut_le hs⟩, q _ H1 h1 x1 ⟨fun H => SqT K H p vs, YAt vs, ?_, fun ms' H2 s => ⟨sqt_mono (s.trans cut_le) hs, fun i x H3 l y => ?_⟩⟩⟩
    · rw [← dpa_len ha]; exact walk_tup
    · obtain ⟨rfl, e⟩ := y
      refine ⟨Same.refl _, fun d hd => ?_⟩
      obtain ⟨d', e', o⟩ := dpa_get ha e
      rw [hd] at e'
      cases e'
      exact dp_mono s _ _ o
theorem src_range {ta : TA} {n : Int} (h : EvD K W ta ρ [.int n]) (hn : n ≤ 1000000000) (h0 : -1000000000 ≤ n) : Src K W (iRng1 ta) ρ ((List.range n.toNat).map fun i => PyData.int (i : Nat)) := fun ms B σ H a R q => h ms B σ H a _ fun vs H1 h1 x1 o1 => by
  cases o1 with
  | cons o1 o2 =>
    cases o1; cases o2
    refine ⟨n, rfl, by omega, by omega, q _ H1 h1 x1 ⟨fun _ => True, YFn fun i => .int (0 + i), ?_, fun ms' H2 s => ⟨trivial, fun i x H3 l y => ?_⟩⟩⟩
    · rw [List.length_map, List.length_range]; exact walk_range
    · obtain ⟨rfl, rfl⟩ := y
      refine ⟨Same.refl _, fun d hd => ?_⟩
      rw [List.getElem?_map] at hd
      cases e : (List.range n.toNat)[i]? with
      | none => rw [e] at hd; cases hd
      | some j =>
        rw [e] at hd
        obtain ⟨hl, e'⟩ := List.getElem?_eq_some_iff.mp e
        rw [List.getElem_range] at e'
        subst e'
        cases hd
        show Dp K _ (V.int (0 + _)) _
        rw [Int.zero_add]
        exact .int _
theorem src_range2 {ta : TA} {lo n : Int} (h : EvD K W ta ρ [.int lo, .int n]) (hn : n ≤ 1000000000) (h0 : -1000000000 ≤ n) (hl : lo ≤ 1000000000) (hl0 : -1000000000 ≤ lo) : Src K W (iRng2 ta) ρ ((List.range (n - lo).toNat).map fun i => PyData.int (lo + (i : Nat))) := fun ms B σ H a R q => h ms B σ H a _ fun vs H1 h1 x1 o1 => by
  cases o1 with
  | cons o1 o2 =>
    cases o2 with
    | cons o2 o3 =>
    cases o1; cases o2; cases o3
    refine ⟨lo, n, rfl, by omega, q _ H1 h1 x1 ⟨fun _ => True, YFn fun i => .int (lo + i), ?_, fun ms' H2 s => ⟨trivial, fun i x H3 l y => ?_⟩⟩⟩
    · rw [List.length_map, List.length_range]; exact walk_range
    · obtain ⟨rfl, rfl⟩ := y
      refine ⟨Same.refl _, fun d hd => ?_⟩
      rw [List.getElem?_map] at hd
      cases e : (List.range (n - lo).toNat)[i]? with
      | none => rw [e] at hd; cases hd
      | some j =>
        rw [e] at hd
        obtain ⟨hl, e'⟩ := List.getElem?_eq_some_iff.mp e
        rw [List.getElem_range] at e'
        subst e'
        cases hd
        exact .int _
theorem walk_zipT {a b : Addr} {xs ys : List V} {n : Nat} (hn : n = min xs.length ys.length) : Walk (ItzT K a b) n (fun H => SqT K H a xs ∧ SqT K H b ys) (YPair (fun i => xs[i]?) (fun i => ys[i]?)) := by
  subst hn
  refine ⟨fun i H hi q => ⟨xs, ys, xs[i]'(by omega), ys[i]'(by omega), q.1, q.2, List.getElem?_eq_getElem _, List.getElem?_eq_getElem _⟩, fun H q => ⟨xs, ys, q.1, q.2, by omega⟩, fun i H v H' hi q y => ?_⟩
  obtain ⟨T, x, z, h1, h2, h3, h4, h5⟩ := y
  exact ⟨T, x, z, h1, h2, h3, h4 xs q.1, h5 ys q.2⟩
theorem pair_item {ms : List Addr} {H2 H3 : Hp} {x : V} {vs ws : List V} {ds es : List PyData} {i : Nat} (l : Live ms H2) (ha : DpAll K (cut ms H2) vs ds) (hb : DpAll K (cut ms H2) ws es) (y : YPair (fun i => vs[i]?) (fun i => ws[i]?) i H2 x H3) :
    Same H2 H3 ∧ ∀ d, (List.zipWith (fun a b => PyData.tuple [a, b]) ds es)[i]? = some d → Dp K (cut ms H3) x d := by
  obtain ⟨T, a, b, rfl, hT, rfl, e1, e2⟩ := y
  refine ⟨same_put hT, fun d hd => ?_⟩
  obtain ⟨d1, q1, o1⟩ := dpa_get ha e1
  obtain ⟨d2, q2, o2⟩ := dpa_get hb e2
  rw [List.getElem?_zipWith, q1, q2] at hd
  cases hd
  exact Sl.new_tup (ds := [d1, d2]) l hT (.cons o1 (.cons o2 .nil))
theorem src_zipT {es : List PyData} {ta : TA} (h : EvD K W ta ρ [.tuple ds, .tuple es]) : Src K W (iZipA K ta) ρ (List.zipWith (fun a b => PyData.tuple [a, b]) ds es) := fun ms B σ H a R q => h ms B σ H a _ fun vs H1 h1 x1 o1 => by
  cases o1 with
  | cons o1 o2 =>
    cases o2 with
    | cons o2 o3 =>
      cases o3
      cases o1 with
      | tup hs ha =>
        cases o2 with
        | tup hs2 ha2 =>
          refine ⟨_, _, _, _, rfl, .inr ⟨sqt_mono cut_le hs, sqt_mono cut_le hs2, q _ H1 h1 x1 ⟨_, _, walk_zipT (by rw [List.length_zipWith, dpa_len ha, dpa_len ha2]), fun ms' H2 s => ⟨⟨sqt_mono (s.trans cut_le) hs, sqt_mono (s.trans cut_le) hs2⟩, fun i x H3 l y => ?_⟩⟩⟩⟩
          exact pair_item l (dpa_mono s _ _ ha) (dpa_mono s _ _ ha2) y
theorem src_zipL {es : List PyData} {ta : TA} (h : EvD K W ta ρ [.list ds, .list es]) : Src K W (iZipA K ta) ρ (List.zipWith (fun a b => PyData.tuple [a, b]) ds es) := fun ms B σ H a R q => h ms B σ H a _ fun vs H1 h1 x1 o1 => by
  cases o1 with
  | cons o1 o2 =>
    cases o2 with
    | cons o2 o3 =>
      cases o3
      cases o1 with
      | lst hs ha =>
        cases o2 with
        | lst hs2 ha2 =>
          refine ⟨_, _, _, _, rfl, .inl ⟨sql_mono cut_le hs, sql_mono cut_le hs2, q _ H1 h1 x1 ⟨_, _, walk_zip (by rw [List.length_zipWith, dpa_len ha, dpa_len ha2]), fun ms' H2 s => ⟨⟨sql_mono (s.trans cut_le) hs, sql_mono (s.trans cut_le) hs2⟩, fun i x H3 l y => ?_⟩⟩⟩⟩
          exact pair_item l (dpa_mono s _ _ ha) (dpa_mono s _ _ ha2) y

/-! ### comprehensions -/
theorem cut_new {ms : List Addr} {H : Hp} {l : Addr} (h : H l = none) : Same (cut ms H) (cut (l :: ms) H) := fun a o e => by
  have nm : a ∉ ms := fun z => by rw [cut_in z] at e; cases e
  rw [cut_out nm] at e
  have na : a ≠ l := fun z => by rw [z, h] at e; cases e
  rw [cut_out (by simp [na, nm])]
  exact e
structure LcI (K : PySem.W.Frag) (W : Wd) (ms : List Addr) (H1 : Hp) (ρw : List Sl) (σw : St) (Dl : Addr) (Ψ : Nat → List PyData → Prop) (i : Nat) (H : Hp) : Prop where
  here : At K W (Dl :: ms) ⟨H1, H1⟩ ρw σw H
  acc : ∃ acc es, H Dl = some (.lst acc) ∧ DpAll K (cut (Dl :: ms) H) acc es ∧ acc.length ≤ i ∧ Ψ i es
theorem LcI.same {H1 : Hp} {ρw : List Sl} {σw : St} {Dl : Addr} {Ψ : Nat → List PyData → Prop} {i : Nat} (h : LcI K W ms H1 ρw σw Dl Ψ i H) (s : Same H H') : LcI K W ms H1 ρw σw Dl Ψ i H' := by
  obtain ⟨acc, es, e1, e2, e3, e4⟩ := h.acc
  exact ⟨h.here.same s, acc, es, s _ _ e1, dpa_mono ((XW.of_same (ws := W.ws) s).cut h.here.sub) _ _ e2, e3, e4⟩
theorem lc_turn {H1 : Hp} {ρw ρ2 : List Sl} {σw σ2 : St} {Dl : Addr} {Ψ : Nat → List PyData → Prop} {i : Nat} {b : Bool} {Φ : PyData → Prop} (h : LcI K W ms H1 ρw σw Dl Ψ i H) (hD : H1 Dl = none) (hw : Dl ∉ W.ws) (hi : i < 16000000)
    (h2 : At K W (Dl :: ms) ⟨H1, H1⟩ ρ2 σ2 H) (ht : EvT K W tt ρ2 b) (he : b = true → En K W te ρ2 fun s => ∃ d, s = .dat d ∧ Φ d)
    (st1 : b = true → ∀ es d, Ψ i es → Φ d → Ψ (i + 1) (es ++ [d])) (st0 : b = false → ∀ es, Ψ i es → Ψ (i + 1) es) :
    tt σ2 H fun b H3 => if b = true then te σ2 H3 fun y H4 => ∃ acc, H4 Dl = some (.lst acc) ∧ acc.length < sizeLine ∧ LcI K W ms H1 ρw σw Dl Ψ (i + 1) (upd H4 Dl (.lst (acc ++ [y]))) else LcI K W ms H1 ρw σw Dl Ψ (i + 1) H3 := by
  obtain ⟨acc, es, e1, e2, e3, e4⟩ := h.acc
  refine ht _ _ _ _ h2 _ fun H3 g3 x3 => ?_
  cases b with
  | true =>
    refine iteT (he rfl _ _ _ _ g3 _ fun s' y H4 φ g4 x4 o4 => ?_)
    obtain ⟨d, rfl, φ⟩ := φ
    have x34 := x3.trans x4
    refine ⟨acc, x34 _ _ hw e1, Nat.lt_of_le_of_lt e3 (Nat.lt_trans hi (by decide)), (h.here.go x34 g4.live g4.p).write List.mem_cons_self hw hD, acc ++ [y], es ++ [d], upd_same, ?_, by rw [List.length_append, List.length_singleton]; omega, st1 rfl es d e4 φ⟩
    exact dpa_snoc (dpa_mono ((x34.cut h.here.sub).trans cut_drop) _ _ e2) (dp_mono cut_drop _ _ o4)
  | false =>
    refine iteF ?_
    exact ⟨h.here.go x3 g3.live g3.p, acc, es, x3 _ _ hw e1, dpa_mono (x3.cut h.here.sub) _ _ e2, by omega, st0 rfl es e4⟩
theorem take_more {α : Type} {xs : List α} {i : Nat} {x : α} (h : xs[i]? = some x) : xs.take (i + 1) = xs.take i ++ [x] := by
  rw [List.take_add_one, h]
  rfl
/-- .. to a new list -/
def EvF (K : PySem.W.Frag) (W : Wd) (te : TE) (ρ : List Sl) (Φ : List PyData → Prop) : Prop :=
  ∀ (ms : List Addr) (B : Bs) (σ : St) (H : Hp), At K W ms B ρ σ H → ∀ Q : VK, (∀ ds p vs H', Φ ds → At K W ms B ρ σ H' → XW W.ws H H' → H p = none → H' p = some (.lst vs) → DpAll K (cut (p :: ms) H') vs ds → Q (.ref p) H') → te σ H Q
theorem EvF.imp {Φ Φ' : List PyData → Prop} (h : EvF K W te ρ Φ) (i : ∀ ds, Φ ds → Φ' ds) : EvF K W te ρ Φ' := fun ms B σ H g Q q => h ms B σ H g Q fun ds p vs H' φ => q ds p vs H' (i ds φ)
theorem en_of_ef {Φ : List PyData → Prop} (h : EvF K W te ρ Φ) : En K W te ρ fun s => ∃ ds, s = .dat (.list ds) ∧ Φ ds := fun ms B σ H g Q q => h ms B σ H g Q fun ds p vs H' φ g' x hp e o =>
  q (.dat (.list ds)) (.ref p) H' ⟨ds, rfl, φ⟩ g' x (.lst (.inl (.inl (by rw [cut_out (g.live.fresh hp)]; exact e))) (dpa_mono cut_cons _ _ o))
theorem ef_lc {α : Type} {xs : List α} {enc : α → PyData} {p : α → Bool} {Φ : α → PyData → Prop} {vs : List Nat} {S : α → List Sl} (sr : Src K W wi ρ (xs.map enc)) (hz : xs.length ≤ 16000000)
    (tg : ∀ x ∈ xs, ∃ js, Tg K W g js (enc x) (wipeR ρ vs) (S x) ∧ ∀ j ∈ js, j ∈ vs) (ht : ∀ x ∈ xs, EvT K W tt (S x) (p x)) (he : ∀ x ∈ xs, p x = true → En K W te (S x) fun s => ∃ d, s = .dat d ∧ Φ x d) :
    EvF K W (tLc wi g tt te vs) ρ fun es => Paired Φ (xs.filter p) es := fun ms B σ H_ a Q q => sr ms B σ H_ a _ fun J H1 h1 x1 stm => by
  obtain ⟨G, Y, wk, st⟩ := stm
  intro Dl hD
  obtain ⟨_, hm, hw⟩ := h1.fresh hD
  have data : ∀ {i : Nat} {H : Hp}, LcI K W ms H1 (wipeR ρ vs) (wipe σ vs) Dl (fun i es => Paired Φ ((xs.take i).filter p) es) i H → Same (cut ms H1) (cut (Dl :: ms) H) := fun {i H} l => (cut_new hD).trans l.here.st
  refine lc_it wk (LcI K W ms H1 (wipeR ρ vs) (wipe σ vs) Dl fun i es => Paired Φ ((xs.take i).filter p) es) ?_ (fun i H _ l => (st _ H (data l)).1) (fun i x H H' hi l y => ?_) fun H l => ?_
  · exact ⟨(h1.base.own hD).wipe vs, [], [], upd_same, .nil, Nat.le_refl _, .nil⟩
  · obtain ⟨s, hd⟩ := (st _ H (data l)).2 i x H' l.here.live y
    have hi' : i < xs.length := by rw [List.length_map] at hi; exact hi
    have hx : xs[i]? = some xs[i] := List.getElem?_eq_getElem hi'
    have hmem : xs[i] ∈ xs := List.getElem_mem hi'
    have o := hd (enc xs[i]) (by rw [List.getElem?_map, hx]; rfl)
    have l' := l.same s
    obtain ⟨js, tj, sub⟩ := tg _ hmem
    refine tj _ _ _ _ x l'.here o _ fun σ2 h2 df => ⟨wipe_diff df sub, ?_⟩
    refine lc_turn l' hD hw (by omega) h2 (ht _ hmem) (he _ hmem) (fun hb es d ψ φ => ?_) fun hb es ψ => ?_
    · rw [take_more hx, List.filter_append, List.filter_cons_of_pos hb]
      exact ψ.snoc φ
    · rw [take_more hx, List.filter_append, List.filter_cons_of_neg (by rw [hb]; decide)]
      show Paired Φ (_ ++ []) es
      rw [List.append_nil]
      exact ψ
  · obtain ⟨acc, es, e1, e2, e3, e4⟩ := l.acc
    rw [List.length_map, List.take_length] at e4
    refine q es Dl acc H e4 (h1.back l.here rfl fun a z => List.mem_cons_of_mem _ z) (x1.trans l.here.xw) ?_ e1 e2
    cases q : H_ Dl with
    | none => rfl
    | some o => rw [x1 Dl o hw q] at hD; cases hD
theorem en_lc {α : Type} {xs : List α} {enc : α → PyData} {p : α → Bool} {Φ : α → PyData → Prop} {vs : List Nat} {S : α → List Sl} (sr : Src K W wi ρ (xs.map enc)) (hz : xs.length ≤ 16000000)
    (tg : ∀ x ∈ xs, ∃ js, Tg K W g js (enc x) (wipeR ρ vs) (S x) ∧ ∀ j ∈ js, j ∈ vs) (ht : ∀ x ∈ xs, EvT K W tt (S x) (p x)) (he : ∀ x ∈ xs, p x = true → En K W te (S x) fun s => ∃ d, s = .dat d ∧ Φ x d) :
    En K W (tLc wi g tt te vs) ρ fun s => ∃ es, s = .dat (.list es) ∧ Paired Φ (xs.filter p) es := en_of_ef (ef_lc sr hz tg ht he)
theorem paired_map {α : Type} {f : α → PyData} : ∀ {xs : List α} {es : List PyData}, Paired (fun x d => d = f x) xs es → es = xs.map f
  | _, _, .nil => rfl
  | _, _, .cons h t => by rw [List.map_cons, ← h, paired_map t]
theorem ev_of_en {d : PyData} (h : En K W te ρ fun s => s = .dat d) : Evd K W te ρ d := fun ms B σ H a Q q => h ms B σ H a Q fun s v H1 e g x o => by
  subst e
  exact q v H1 g x o
theorem en_of_ev {Φ : Sl → Prop} (h : Ev K W te ρ s) (φ : Φ s) : En K W te ρ Φ := fun ms B σ H a Q q => h ms B σ H a Q fun v H1 g x o => q s v H1 φ g x o
theorem En.imp {Φ Φ' : Sl → Prop} (h : En K W te ρ Φ) (i : ∀ s, Φ s → Φ' s) : En K W te ρ Φ' := fun ms B σ H a Q q => h ms B σ H a Q fun s v H1 e g x o => q s v H1 (i s e) g x o
theorem ev_lc {α : Type} {xs : List α} {enc f : α → PyData} {p : α → Bool} {vs : List Nat} {S : α → List Sl} (sr : Src K W wi ρ (xs.map enc)) (hz : xs.length ≤ 16000000)
    (tg : ∀ x ∈ xs, ∃ js, Tg K W g js (enc x) (wipeR ρ vs) (S x) ∧ ∀ j ∈ js, j ∈ vs) (ht : ∀ x ∈ xs, EvT K W tt (S x) (p x)) (he : ∀ x ∈ xs, p x = true → Evd K W te (S x) (f x)) :
    Evd K W (tLc wi g tt te vs) ρ (.list ((xs.filter p).map f)) :=
  ev_of_en ((en_lc (Φ := fun x d => d = f x) sr hz tg ht fun x hx hp => en_of_ev (he x hx hp) ⟨_, rfl, rfl⟩).imp fun s ⟨es, e, pr⟩ => by rw [e, paired_map pr])
/-- no test, the target a name -/
theorem ev_lc0 {α : Type} {xs : List α} {enc f : α → PyData} {j : Nat} (sr : Src K W wi ρ (xs.map enc)) (hz : xs.length ≤ 16000000) (he : ∀ x ∈ xs, Evd K W te ((ρ.set j .emp).set j (.dat (enc x))) (f x)) :
    Evd K W (tLc wi (gName j) tYes te [j]) ρ (.list (xs.map f)) := by
  have h := ev_lc (K := K) (W := W) (g := gName j) (tt := tYes) (te := te) (p := fun _ => true) (f := f) (vs := [j]) (S := fun x => (ρ.set j .emp).set j (.dat (enc x))) sr hz (fun x _ => ⟨[j], tg_name, fun _ z => z⟩) (fun _ _ => et_yes) fun x hx _ => he x hx
  rw [List.filter_eq_self.mpr fun _ _ => rfl] at h
  exact h
theorem ev_lc1 {α : Type} {xs : List α} {enc f : α → PyData} {p : α → Bool} {j : Nat} (sr : Src K W wi ρ (xs.map enc)) (hz : xs.length ≤ 16000000) (ht : ∀ x ∈ xs, EvT K W tt ((ρ.set j .emp).set j (.dat (enc x))) (p x)) (he : ∀ x ∈ xs, p x = true → Evd K W te ((ρ.set j .emp).set j (.dat (enc x))) (f x)) :
    Evd K W (tLc wi (gName j) tt te [j]) ρ (.list ((xs.filter p).map f)) :=
  ev_lc (vs := [j]) (S := fun x => (ρ.set j .emp).set j (.dat (enc x))) sr hz (fun x _ => ⟨[j], tg_name, fun _ z => z⟩) ht he

/-! ### statements -/
theorem s_asg {i : Nat} (h : At K W ms B ρ σ H) (e : Ev K W te ρ s) (k : ∀ σ' H', At K W ms B (ρ.set i s) σ' H' → XW W.ws H H' → D.nx σ' H') : tAsg te (gName i) D σ H :=
  e ms B σ H h _ fun v H1 h1 x1 o1 => k _ H1 (h1.set o1 i) x1
theorem q_asg {i : Nat} (h : At K W ms B ρ σ H) (e : Ev K W te ρ s) (k : ∀ σ' H', At K W ms B (ρ.set i s) σ' H' → XW W.ws H H' → tz D σ' H') : tSeq (tAsg te (gName i)) tz D σ H :=
  s_asg (D := { D with nx := tz D }) h e k
theorem s_tgt {js : List Nat} (h : At K W ms B ρ σ H) (e : Evd K W te ρ d) (tj : Tg K W g js d ρ ρ') (k : ∀ σ' H', At K W ms B ρ' σ' H' → XW W.ws H H' → D.nx σ' H') : tAsg te g D σ H :=
  e ms B σ H h _ fun v H1 h1 x1 o1 => tj ms B σ H1 v h1 o1 _ fun σ' h' _ => k σ' H1 h' x1
theorem q_tgt {js : List Nat} (h : At K W ms B ρ σ H) (e : Evd K W te ρ d) (tj : Tg K W g js d ρ ρ') (k : ∀ σ' H', At K W ms B ρ' σ' H' → XW W.ws H H' → tz D σ' H') : tSeq (tAsg te g) tz D σ H :=
  s_tgt (D := { D with nx := tz D }) h e tj k
theorem s_drop (h : At K W ms B ρ σ H) (e : Ev K W te ρ s) (k : ∀ H', At K W ms B ρ σ H' → XW W.ws H H' → D.nx σ H') : tDrop te D σ H := e ms B σ H h _ fun v H1 h1 x1 _ => k H1 h1 x1
theorem q_drop (h : At K W ms B ρ σ H) (e : Ev K W te ρ s) (k : ∀ H', At K W ms B ρ σ H' → XW W.ws H H' → tz D σ H') : tSeq (tDrop te) tz D σ H := s_drop (D := { D with nx := tz D }) h e k
theorem s_ret (h : At K W ms B ρ σ H) (e : Ev K W te ρ s) (k : ∀ v H', At K W ms B ρ σ H' → XW W.ws H H' → s.ok K (cut ms H') v → D.rt v H') : tRet te D σ H := e ms B σ H h _ k
theorem s_if {b : Bool} (h : At K W ms B ρ σ H) (e : EvT K W tt ρ b) (k1 : b = true → ∀ H', At K W ms B ρ σ H' → XW W.ws H H' → ts D σ H') (k2 : b = false → ∀ H', At K W ms B ρ σ H' → XW W.ws H H' → ts' D σ H') : tIfS tt ts ts' D σ H :=
  e ms B σ H h _ fun H1 h1 x1 => by
    cases b with
    | true => exact iteT (k1 rfl H1 h1 x1)
    | false => exact iteF (k2 rfl H1 h1 x1)
theorem q_if {b : Bool} (h : At K W ms B ρ σ H) (e : EvT K W tt ρ b) (k1 : b = true → ∀ H', At K W ms B ρ σ H' → XW W.ws H H' → ts { D with nx := tz D } σ H') (k2 : b = false → ∀ H', At K W ms B ρ σ H' → XW W.ws H H' → ts' { D with nx := tz D } σ H') : tSeq (tIfS tt ts ts') tz D σ H :=
  s_if (D := { D with nx := tz D }) h e k1 k2
theorem q_when {b : Bool} (h : At K W ms B ρ σ H) (e : EvT K W tt ρ b) (k1 : b = true → ∀ H', At K W ms B ρ σ H' → XW W.ws H H' → ts { D with nx := tz D } σ H') (k2 : b = false → ∀ H', At K W ms B ρ σ H' → XW W.ws H H' → tz D σ H') : tSeq (tIfS tt ts tNext) tz D σ H :=
  s_if (D := { D with nx := tz D }) h e k1 k2
theorem s_par {i j : Nat} {ta : TA} {s1 s2 : Sl} (h : At K W ms B ρ σ H) (e : EvA K W ta ρ [s1, s2]) (k : ∀ σ' H', At K W ms B ((ρ.set i s1).set j s2) σ' H' → XW W.ws H H' → D.nx σ' H') : tPar i j ta D σ H :=
  e ms B σ H h _ fun vs H1 h1 x1 o1 => by
    cases o1 with
    | cons o1 o2 =>
      cases o2 with
      | cons o2 o3 =>
        cases o3
        exact ⟨_, _, rfl, k _ H1 ((h1.set o1 i).set o2 j) x1⟩
theorem q_par {i j : Nat} {ta : TA} {s1 s2 : Sl} (h : At K W ms B ρ σ H) (e : EvA K W ta ρ [s1, s2]) (k : ∀ σ' H', At K W ms B ((ρ.set i s1).set j s2) σ' H' → XW W.ws H H' → tz D σ' H') : tSeq (tPar i j ta) tz D σ H :=
  s_par (D := { D with nx := tz D }) h e k
/-- a new list of one's own -/
theorem q_own {i : Nat} {ta : TA} (h : At K W ms B ρ σ H) (e : EvD K W ta ρ ds) (hl : ds.length ≤ 100000)
    (k : ∀ l vs σ' H', At K W (l :: ms) B (ρ.set i (.raw (.ref l))) σ' H' → H' l = some (.lst vs) → DpAll K (cut (l :: ms) H') vs ds → B.h0 l = none → l ∉ ms → l ∉ W.ws → tz D σ' H') : tSeq (tAsg (tLst ta) (gName i)) tz D σ H :=
  e ms B σ H h _ fun vs H1 h1 x1 o1 => ⟨by rw [dpa_len o1]; exact le_line hl, fun p hp => by
    obtain ⟨h0, hm, hw⟩ := h1.fresh hp
    exact k p vs _ _ ((h1.own hp).set (s := .raw (.ref p)) rfl i) upd_same (dpa_mono ((cut_new hp).trans cut_drop) _ _ o1) h0 hm hw⟩
/-- the for -/
theorem s_for {R S : Nat → List Sl} {X : Nat → Hp → Prop} (h : At K W ms B ρ σ H) (sr : Src K W wi ρ ds) (l0 : Le (R 0) ρ) (x0 : ∀ H1, At K W ms B ρ σ H1 → XW W.ws H H1 → X 0 H1) (xm : ∀ i H H', Same H H' → At K W ms B (R i) σ H → X i H → X i H')
    (tg : ∀ i d, ds[i]? = some d → ∃ js, Tg K W g js d (R i) (S i))
    (hs : ∀ Hb i d σ' H', ds[i]? = some d → At K W ms ⟨B.h0, Hb⟩ (S i) σ' H' → X i H' → ts { D with nx := fun σ H => At K W ms ⟨B.h0, Hb⟩ (R (i + 1)) σ H ∧ X (i + 1) H, ct := fun σ H => At K W ms ⟨B.h0, Hb⟩ (R (i + 1)) σ H ∧ X (i + 1) H, bk := D.nx } σ' H')
    (hd : ∀ σ' H', At K W ms B (R ds.length) σ' H' → X ds.length H' → D.nx σ' H') (xs : ∀ i H H', Same H H' → Live ms H → X i H → X i H') : tFor wi g ts D σ H := sr ms B σ H h _ fun J H1 h1 x1 stm => by
  obtain ⟨G, Y, wk, st⟩ := stm
  refine for_it wk (fun i σ H => At K W ms ⟨B.h0, H1⟩ (R i) σ H ∧ X i H) ⟨h1.re.le l0, x0 H1 h1 x1⟩ (fun i σ H _ p => (st ms H p.1.st).1) (fun i x σ H H' hi p y => ?_) fun σ H p => hd σ H (h1.un p.1) p.2
  obtain ⟨s, hdt⟩ := (st ms H p.1.st).2 i x H' p.1.live y
  have hx : ds[i]? = some ds[i] := List.getElem?_eq_getElem hi
  obtain ⟨js, tj⟩ := tg i _ hx
  exact tj ms _ σ H' x (p.1.same s) (hdt _ hx) _ fun σ2 h2 _ => hs H1 i _ σ2 H' hx h2 (xs i H H' s p.1.live p.2)

/-! ### defs that only read -/
def spP (K : PySem.W.Frag) (G : List PyData → PyData → Prop) : Sp := fun vs H Q _ => ∃ (ms : List Addr) (ds : List PyData) (d : PyData), Live ms H ∧ DpAll K (cut ms H) vs ds ∧ G ds d ∧ ∀ v H', Same H H' → Dp K (cut ms H') v d → Q v H'
theorem ev_call {G : List PyData → PyData → Prop} {ta : TA} {E : XK} (h : EvD K W ta ρ ds) (hg : G ds d) : Evd K W (tCall (spP K G) [] E ta) ρ d := fun ms B σ H a Q q => h ms B σ H a _ fun vs H1 h1 x1 o1 => by
  show spP K G (vs ++ []) H1 Q E
  rw [List.append_nil]
  exact ⟨ms, ds, d, h1.live, o1, hg, fun v H2 s2 o2 => q v H2 (h1.same s2) (x1.trans (.of_same s2)) o2⟩
def Runs (K : PySem.W.Frag) (t : TS) (ρ : List Sl) (d : PyData) : Prop :=
  ∀ (ms : List Addr) (σ : St) (H : Hp) (Q : VK), At K W0 ms ⟨H, H⟩ ρ σ H → (∀ v H', At K W0 ms ⟨H, H⟩ [] [] H' → Dp K (cut ms H') v d → Q v H') → t { nx := fun _ H' => Q .non H', rt := Q } σ H
def slots (n : Nat) (ds : List PyData) : List Sl := ds.map .dat ++ List.replicate (n - ds.length) .emp
theorem At.nil (h : At K W ms B ρ σ H) : At K W ms B [] [] H := ⟨h.sub, h.live, .nil, h.p, h.xw, h.st, h.c⟩
theorem env_args : ∀ {vs : List V} {ds : List PyData}, DpAll K H vs ds → EnvOk K H (ds.map .dat) (vs.map some)
  | _, [], h => by cases h; exact .nil
  | _, d :: ds, h => by
    cases h with
    | cons h1 h2 => exact .cons h1 (env_args h2)
theorem at_start {N : List Str} {vs : List V} (l : Live ms H) (h : DpAll K (cut ms H) vs ds) : At K W0 ms ⟨H, H⟩ (slots N.length ds) (L2.start N vs) H :=
  ⟨fun _ z => (by cases z), l, by unfold slots L2.start; rw [dpa_len h]; exact EnvOk.app (env_args h) (EnvOk.emp _), trivial, .refl H, Same.refl _, trivial⟩
section
variable {P : Program} {w : World} {mg : Str → Option Value} {base : Heap}
theorem pureOk {x qual : Str} {st : Stmt} {f : Addr} {fd : FuncData} {N ps : List Str} {k : Nat} {G : List PyData → PyData → Prop} (F : Fun K x qual st f fd) (S : FnScope N ps (defScope st)) (hG : ∀ ds d, G ds d → ds.length = ps.length)
    (hb : ∀ (cdv : Value) (A : Around) (outer : List Env) (s : Shared) (H : Hp) (E : XK), Room k (A.deeper (envOfC qual (defScope st) s.heap.objs.size f cdv)) →
      ∃ t, PSs (cxOf CX0 P w K mg base N qual (defScope st) f cdv A outer s H E).nox (defBody st) t ∧ ∀ ds d, G ds d → Runs K t (slots N.length ds) d) : FnOk P w K mg base CX0 (k + 1) f fd ps (spP K G) := by
  refine F.ok S (fun vs H Q E h => ?_) fun cdv A outer s H vs Q E hr h => ?_
  · obtain ⟨ms, ds, d, l, o, g, _⟩ := h
    rw [dpa_len o, hG ds d g]
  · obtain ⟨ms, ds, d, l, o, g, q⟩ := h
    obtain ⟨t, ht, hr⟩ := hb cdv A outer s H E hr
    exact ⟨t, ht, hr ds d g ms _ H Q (at_start l o) fun v H' a od => q v H' a.xw.same od⟩
end
end
end Fw

/-! The frame, 4: further rules (a list or a tuple walked, keywords alone, xs[i] op= e, repr of data). -/
namespace Fw
open PySem L2
open PyProof.Rows (envOfC)

section
variable {X : Cx} {tg l : Expr} {tl : TE}
/-- a list or a tuple is walked -/
def iSeq (K : PySem.W.Frag) (tl : TE) : TI := fun σ H R => tl σ H fun x H1 => ∃ a, x = .ref a ∧ (((∃ xs, SqL K H1 a xs) ∧ R (Itl K a) H1) ∨ ((∃ xs, SqT K H1 a xs) ∧ R (Itt K a) H1))
theorem pi_seq (hl : PE X l tl) : PI X tg l (iSeq X.K tl) := ⟨fun pins s σ H R I h => by
  refine thn (hl.run pins s σ H _ I h) fun w sa hw => ?_
  obtain ⟨x, Ha, Ia, rx, a, ex, q⟩ := hw
  subst ex
  cases rx
  have kp : ∀ ob : Obj, Inv X pins σ Ha { sa with heap := sa.heap.push ob, toks := sa.toks } := fun ob => Ia.kept (t' := sa.toks) fun b o e => Heap.get?_push_of_some ob e
  have fp : ∀ b ∈ [sa.heap.objs.size], FpOk X pins Ha b := fun b hb => by
    rw [List.mem_singleton.mp hb]
    exact Ia.fpOk (Nat.le_refl _) (Ia.hok.fresh (Nat.le_refl _))
  rcases q with ⟨⟨xs, hq⟩, q⟩ | ⟨⟨xs, hq⟩, q⟩
  · obtain ⟨its, _, p, _⟩ := Ia.list hq
    exact wpAny_pyIter_list p.isList ⟨_, [sa.heap.objs.size], _, _, Ha, rfl, kp _, turn_list a _, ⟨_, Heap.get?_push_size _ rfl, rfl, rfl⟩, fp, q⟩
  · obtain ⟨its, _, p, _⟩ := Ia.tuple hq
    exact wpAny_pyIter_tuple (show sa.heap.IsTuple a its.toArray from p) ⟨_, [sa.heap.objs.size], _, _, Ha, rfl, kp _, turn_tuple a _, ⟨_, Heap.get?_push_size _ rfl, rfl, rfl⟩, fp, q⟩⟩
/-- xs[j], by values, j not negative -/
def rGetL (K : PySem.W.Frag) : V → V → Hp → VK → Prop := fun x y H Q => ∃ (p : Addr) (xs : List V) (j : Nat) (v : V), x = .ref p ∧ y = .int (j : Int) ∧ SqL K H p xs ∧ j < 1000000 ∧ xs[j]? = some v ∧ Q v H
theorem pget_list : PGet X (rGetL X.K) := fun pins s σ H x y v u Q I rx ry h => by
  obtain ⟨p, xs, j, z, rfl, rfl, hq, hj, e, q⟩ := h
  cases rx
  obtain ⟨tk, rfl⟩ := ry
  obtain ⟨its, r, pl, _⟩ := I.list hq
  obtain ⟨w, ew, rw'⟩ := r.get e
  exact wpAny_getItem_list pl.isList (by omega) (by omega) (by simpa using ew) ⟨z, H, I, rw', q⟩
/-- f(k = v, ..), keywords alone -/
theorem pe_fnK {x : Str} {p pos : Pos} {kws : List Keyword} {tk : TA} {k : Nat} {f : Addr} {fd : FuncData} {ps ks : List Str} {sp : Sp} {g : List Value → List Value → List Value} {gV : List V → List V → List V}
    (F : FnOk X.prog X.w X.K X.mg X.base CX0 k f fd ps sp) (hr : Room k X.A) (hg : Gl X x) (hm : X.mg x = some (.ref f)) (hk : PySem.W.keepIn X.K (.ref f) = true) (hb : KBinds X.K fd ps ks g gV) (hkw : PK X kws tk)
    (ha : (backToKw pos (keywordEach kws X.env)).all (·.1.isSome) = true := by rfl) (hn : (backToKw pos (keywordEach kws X.env)).filterMap (·.1) = ks := by rfl)
    (hd : (x == ("__debug__" : Str)) = false := by decide) (hp : ((backTo pos (starEach [] X.env)).any (·.1) || (backToKw pos (keywordEach kws X.env)).any (·.1.isNone)) = false := by rfl) :
    PE X (.Call (.Name x p) [] kws pos) (tCallK sp gV E0 tNil tk) := ⟨fun pins s σ H Q I h => by
  refine wpAny_Call_Name_kw (ld_glob I hg hm (PySem.W.callWith_KW0 (h₀ := X.base) I.ok.mod.kin hk ha (thn (hkw.run pos pins s σ H _ I h) fun ws sb hz => ?_) hp) hd)
  obtain ⟨zs, Hb, Ib, rz, qz⟩ := hz
  refine ⟨Ib.kIn, ?_⟩
  rw [hn]
  exact run_fnk (us := []) (vs := []) F hr hb pass0 Ib .nil rz qz⟩
/-- repr of a list or a tuple of data -/
def rReprD (K : PySem.W.Frag) : List V → Hp → VK → Prop := fun vs H Q => ∃ (a : Addr) (d : PyData), vs = [.ref a] ∧ Dp K H (.ref a) d ∧ d.showable = true ∧ d.hasDict = false ∧ d.depth ≤ 60 ∧ d.shown.length ≤ sizeLine ∧ Q (.str d.shown) H
theorem cr_reprD (hg : X.A.guards = some []) (hu : X.A.units + 64 < cLine) : CallR X (.builtin "repr") (rReprD X.K) := fun pins s σ H xs us Q I r h => by
  obtain ⟨a, d, rfl, hd, hs, hn, hz, hl, q⟩ := h
  obtain ⟨u, rfl, ru⟩ := vals1 r
  obtain ⟨as, rd⟩ := Dp.reads I d _ u hd ru
  cases ru
  exact PySem.repr_of_reads' rd hs (fun z => absurd z (by rw [hn]; decide)) hg (by omega) (fun b o e => e) (fun h' u' tk kp => ⟨.str _, H, I.kept (t' := tk) kp, ⟨u', rfl⟩, q⟩) hl
end

section
variable {K : PySem.W.Frag} {W : Wd} {ρ : List Sl} {d : PyData} {ds : List PyData} {tl te ta tb : TE}
theorem src_seqL (h : Evd K W tl ρ (.list ds)) : Src K W (iSeq K tl) ρ ds := fun ms B σ H a R q => h ms B σ H a _ fun v H1 h1 x1 o1 => by
  cases o1 with
  | @lst p vs _ hs ha =>
    refine ⟨p, rfl, .inl ⟨⟨vs, sql_mono cut_le hs⟩, q _ H1 h1 x1 ⟨fun H => SqL K H p vs, YAt vs, ?_, fun ms' H2 s => ⟨sql_mono (s.trans cut_le) hs, fun i x H3 l y => ?_⟩⟩⟩⟩
    · rw [← dpa_len ha]; exact walk_list
    · obtain ⟨rfl, e⟩ := y
      refine ⟨Same.refl _, fun d hd => ?_⟩
      obtain ⟨d', e', o⟩ := dpa_get ha e
      rw [hd] at e'
      cases e'
      exact dp_mono s _ _ o
theorem src_seqT (h : Evd K W tl ρ (.tuple ds)) : Src K W (iSeq K tl) ρ ds := fun ms B σ H a R q => h ms B σ H a _ fun v H1 h1 x1 o1 => by
  cases o1 with
  | @tup p vs _ hs ha =>
    refine ⟨p, rfl, .inr ⟨⟨vs, sqt_mono cut_le hs⟩, q _ H1 h1 x1 ⟨fun H => SqT K H p vs, YAt vs, ?_, fun ms' H2 s => ⟨sqt_mono (s.trans cut_le) hs, fun i x H3 l y => ?_⟩⟩⟩⟩
    · rw [← dpa_len ha]; exact walk_tup
    · obtain ⟨rfl, e⟩ := y
      refine ⟨Same.refl _, fun d hd => ?_⟩
      obtain ⟨d', e', o⟩ := dpa_get ha e
      rw [hd] at e'
      cases e'
      exact dp_mono s _ _ o
/-- data that is a list or a tuple -/
def sq (b : Bool) (ds : List PyData) : PyData := if b then .list ds else .tuple ds
theorem src_seq {b : Bool} (h : Evd K W tl ρ (sq b ds)) : Src K W (iSeq K tl) ρ ds := by
  cases b with
  | true => exact src_seqL h
  | false => exact src_seqT h
theorem ev_lenS {b : Bool} (h : Evd K W te ρ (sq b ds)) : Evd K W (tCB (rLenQ K) (tCons te tNil)) ρ (.int (ds.length : Int)) := by
  cases b with
  | true => exact ev_lenL h
  | false => exact ev_lenT h
theorem ev_ixS {b : Bool} {i : Int} (ha : Evd K W ta ρ (sq b ds)) (hb : Evd K W tb ρ (.int i)) (h : atI ds i = some d) : Evd K W (tOp (rIx K) ta tb) ρ d := ev_op ha hb fun ms H x y l hx hy Q q => by
  cases b with
  | true => exact .inl (rs_ixL h ms H x y l hx hy Q q)
  | false => exact .inr (.inl (rs_ixT h ms H x y l hx hy Q q))
theorem ev_isiLT {b : Bool} (h : Evd K W te ρ (sq b ds)) : Evd K W (tCB (rIsiT K) (tCons te (tCons (tTup (tCons (tC (.ty "list")) (tCons (tC (.ty "tuple")) tNil))) tNil))) ρ (.bool true) := by
  cases b with
  | true =>
    refine ev_isi2 h ?_
    have e : PySem.W.kitOne K (.type "list") (.type "list") = some true := kit_ty (by decide +kernel)
    show PySem.W.kitAny K (.type "list") _ = _
    unfold PySem.W.kitAny
    rw [e]
  | false =>
    refine ev_isi2 h ?_
    have e : PySem.W.kitOne K (.type "tuple") (.type "list") = some false := kit_ty (by decide +kernel)
    have e2 : PySem.W.kitOne K (.type "tuple") (.type "tuple") = some true := kit_ty (by decide +kernel)
    show PySem.W.kitAny K (.type "tuple") _ = _
    unfold PySem.W.kitAny
    rw [e]
    show PySem.W.kitAny K (.type "tuple") _ = _
    unfold PySem.W.kitAny
    rw [e2]
theorem ev_repr {te : TE} (h : Evd K W te ρ d) (hs : d.showable = true) (hn : d.hasDict = false) (hz : d.depth ≤ 60) (hl : d.shown.length ≤ sizeLine) (hr : (∃ ds, d = .list ds) ∨ ∃ ds, d = .tuple ds) : Evd K W (tCB (rReprD K) (tCons te tNil)) ρ (.str d.shown) :=
  ev_cb (ed_cons h ed_nil) (rc1 fun ms H v l o Q q => by
    have o' := dp_mono cut_le _ _ o
    rcases hr with ⟨ds, rfl⟩ | ⟨ds, rfl⟩
    · cases o' with
      | lst h1 h2 => exact ⟨_, _, rfl, .lst h1 h2, hs, hn, hz, hl, q _ H (Same.refl H) (.str _)⟩
    · cases o' with
      | tup h1 h2 => exact ⟨_, _, rfl, .tup h1 h2, hs, hn, hz, hl, q _ H (Same.refl H) (.str _)⟩)
/-- keywords alone, put in the parameters' order -/
theorem ev_callK {G : List PyData → PyData → Prop} {tk : TA} {gV : List V → List V → List V} {gD : List PyData → List PyData} {E : XK} (h : EvD K W tk ρ ds) (hg : G (gD ds) d) (hp : ∀ (H : Hp) (vs : List V), DpAll K H vs ds → DpAll K H (gV [] vs) (gD ds)) : Evd K W (tCallK (spP K G) gV E tNil tk) ρ d := fun ms B σ H a Q q => h ms B σ H a _ fun vs H1 h1 x1 o1 =>
  ⟨ms, gD ds, d, h1.live, hp _ _ o1, hg, fun v H2 s2 o2 => q v H2 (h1.same s2) (x1.trans (.of_same s2)) o2⟩
end
theorem kb_NoneType_bool : kitB "NoneType" "bool" = some false := by decide +kernel
theorem kb_NoneType_int : kitB "NoneType" "int" = some false := by decide +kernel
theorem kb_NoneType_str : kitB "NoneType" "str" = some false := by decide +kernel
theorem kb_NoneType_list : kitB "NoneType" "list" = some false := by decide +kernel
theorem kb_NoneType_tuple : kitB "NoneType" "tuple" = some false := by decide +kernel
theorem kb_NoneType_dict : kitB "NoneType" "dict" = some false := by decide +kernel
theorem kb_bool_bool : kitB "bool" "bool" = some true := by decide +kernel
theorem kb_bool_int : kitB "bool" "int" = some true := by decide +kernel
theorem kb_bool_str : kitB "bool" "str" = some false := by decide +kernel
theorem kb_bool_list : kitB "bool" "list" = some false := by decide +kernel
theorem kb_bool_tuple : kitB "bool" "tuple" = some false := by decide +kernel
theorem kb_bool_dict : kitB "bool" "dict" = some false := by decide +kernel
theorem kb_int_bool : kitB "int" "bool" = some false := by decide +kernel
theorem kb_int_int : kitB "int" "int" = some true := by decide +kernel
theorem kb_int_str : kitB "int" "str" = some false := by decide +kernel
theorem kb_int_list : kitB "int" "list" = some false := by decide +kernel
theorem kb_int_tuple : kitB "int" "tuple" = some false := by decide +kernel
theorem kb_int_dict : kitB "int" "dict" = some false := by decide +kernel
theorem kb_str_bool : kitB "str" "bool" = some false := by decide +kernel
theorem kb_str_int : kitB "str" "int" = some false := by decide +kernel
theorem kb_str_str : kitB "str" "str" = some true := by decide +kernel
theorem kb_str_list : kitB "str" "list" = some false := by decide +kernel
theorem kb_str_tuple : kitB "str" "tuple" = some false := by decide +kernel
theorem kb_str_dict : kitB "str" "dict" = some false := by decide +kernel
theorem kb_list_bool : kitB "list" "bool" = some false := by decide +kernel
theorem kb_list_int : kitB "list" "int" = some false := by decide +kernel
theorem kb_list_str : kitB "list" "str" = some false := by decide +kernel
theorem kb_list_list : kitB "list" "list" = some true := by decide +kernel
theorem kb_list_tuple : kitB "list" "tuple" = some false := by decide +kernel
theorem kb_list_dict : kitB "list" "dict" = some false := by decide +kernel
theorem kb_tuple_bool : kitB "tuple" "bool" = some false := by decide +kernel
theorem kb_tuple_int : kitB "tuple" "int" = some false := by decide +kernel
theorem kb_tuple_str : kitB "tuple" "str" = some false := by decide +kernel
theorem kb_tuple_list : kitB "tuple" "list" = some false := by decide +kernel
theorem kb_tuple_tuple : kitB "tuple" "tuple" = some true := by decide +kernel
theorem kb_tuple_dict : kitB "tuple" "dict" = some false := by decide +kernel
theorem kb_dict_bool : kitB "dict" "bool" = some false := by decide +kernel
theorem kb_dict_int : kitB "dict" "int" = some false := by decide +kernel
theorem kb_dict_str : kitB "dict" "str" = some false := by decide +kernel
theorem kb_dict_list : kitB "dict" "list" = some false := by decide +kernel
theorem kb_dict_tuple : kitB "dict" "tuple" = some false := by decide +kernel
theorem kb_dict_dict : kitB "dict" "dict" = some true := by decide +kernel
end Fw

/-! The frame, 5: lists of one's own: made, grown, lent. -/
namespace Fw
open PySem L2
open PyProof.Rows (envOfC)
section
variable {K : PySem.W.Frag} {W : Wd} {ms : List Addr} {B : Bs} {H H' : Hp} {ρ ρ' ρ1 : List Sl} {σ σ' : St} {d : PyData} {ds : List PyData} {s : Sl} {v : V} {vs : List V} {l : Addr} {i : Nat}
  {ta tb tc te tx tl ti : TE} {tt t u : TT} {wi : TI} {g : TG} {D : Ends} {ts ts' tz : TS}
theorem At.freshB (h : At K W ms B ρ σ H) (hl : H l = none) : B.hb l = none := by
  have hm := (h.fresh hl).2.1
  cases q : B.hb l with
  | none => rfl
  | some o =>
    have e := h.st l o (by rw [cut_out hm]; exact q)
    rw [cut_out hm, hl] at e
    cases e
/-- what one owns: a list at l, apart from the data -/
structure Own (K : PySem.W.Frag) (W : Wd) (ms : List Addr) (B : Bs) (l : Addr) (ds : List PyData) (H : Hp) : Prop where
  mem : l ∈ ms
  nws : l ∉ W.ws
  h0 : B.h0 l = none
  val : ∃ vs, H l = some (.lst vs) ∧ DpAll K (cut ms H) vs ds
theorem Own.go (o : Own K W ms B l ds H) (sub : ∀ a ∈ W.ws, a ∈ ms) (x : XW W.ws H H') : Own K W ms B l ds H' := by
  obtain ⟨vs, e, d⟩ := o.val
  exact ⟨o.mem, o.nws, o.h0, vs, x l _ o.nws e, dpa_mono (x.cut sub) _ _ d⟩
theorem Own.same (o : Own K W ms B l ds H) (s : Same H H') : Own K W ms B l ds H' := by
  obtain ⟨vs, e, d⟩ := o.val
  exact ⟨o.mem, o.nws, o.h0, vs, s _ _ e, dpa_mono (fun a u q => by
    by_cases z : a ∈ ms
    · rw [cut_in z] at q; cases q
    · rw [cut_out z] at q ⊢
      exact s _ _ q) _ _ d⟩
theorem Own.re (o : Own K W ms B l ds H) (b : Hp) : Own K W ms ⟨B.h0, b⟩ l ds H := ⟨o.mem, o.nws, o.h0, o.val⟩
theorem Own.un {b : Hp} (o : Own K W ms ⟨B.h0, b⟩ l ds H) : Own K W ms B l ds H := ⟨o.mem, o.nws, o.h0, o.val⟩
/-- a list that came new is taken as one's own -/
theorem At.adopt (h : At K W ms B ρ σ H) (x : XW W.ws H H') (g : At K W ms B ρ σ H') (hl : H l = none) {o : HO} (e : H' l = some o) : At K W (l :: ms) B ρ σ H' := by
  have m1 : Same (cut ms H) (cut (l :: ms) H') := (cut_new hl).trans (x.cut fun a z => List.mem_cons_of_mem _ (h.sub a z))
  refine ⟨fun a z => List.mem_cons_of_mem _ (h.sub a z), fun a z => ?_, h.env.mono m1, g.p, g.xw, cut_cons.trans (h.st.trans m1), W.mono _ _ m1 h.c⟩
  rcases List.mem_cons.mp z with q | q
  · subst q; exact ⟨o, e⟩
  · exact g.live a q
/-- one's own list read as data -/
theorem At.lend (h : At K W (l :: ms) B ρ σ H) (o : Own K W (l :: ms) B l ds H) (hm : l ∉ ms) (hb : B.hb l = none) (hr : ρ[i]? = some (.raw (.ref l))) : At K W ms B (ρ.set i (.dat (.list ds))) σ H := by
  obtain ⟨vs, e, dd⟩ := o.val
  have hd : Dp K (cut ms H) (.ref l) (.list ds) := .lst (.inl (.inl (by rw [cut_out hm]; exact e))) (dpa_mono cut_cons _ _ dd)
  refine ⟨fun a z => ?_, fun a z => h.live a (List.mem_cons_of_mem _ z), ?_, h.p, h.xw, (cut_new hb).trans (h.st.trans cut_cons), W.mono _ _ cut_cons h.c⟩
  · rcases List.mem_cons.mp (h.sub a z) with q | q
    · exact absurd (q ▸ z) o.nws
    · exact q
  · obtain ⟨w, ew, ow⟩ := h.env.get hr (by intro q; cases q)
    have ew' : w = .ref l := ow
    subst ew'
    have hx := (h.env.mono (cut_cons (ms := ms) (H := H))).set (s := .dat (.list ds)) (o := some (.ref l)) hd i
    have es : σ.set i (some (.ref l)) = σ := by
      apply List.ext_getElem?
      intro j
      by_cases q : i = j
      · subst q
        rw [List.getElem?_set_self', ew]
        rfl
      · rw [List.getElem?_set_ne q]
    rw [es] at hx
    exact hx
theorem ef_lst {ta : TA} (h : EvD K W ta ρ ds) (hl : ds.length ≤ 100000) : EvF K W (tLst ta) ρ (· = ds) := fun ms B σ H g Q q => h ms B σ H g _ fun vs H1 g1 x1 o1 =>
  ⟨by rw [dpa_len o1]; exact le_line hl, fun p hp => by
    have hp0 : H p = none := by
      have hw := (g1.fresh hp).2.2
      cases q : H p with
      | none => rfl
      | some o => rw [x1 p o hw q] at hp; cases hp
    exact q ds p vs _ rfl (g1.same (same_put hp)) (x1.trans (.of_same (same_put hp))) hp0 upd_same (dpa_mono ((cut_new hp).trans cut_drop) _ _ o1)⟩
theorem ev_of_ef (h : EvF K W te ρ (· = ds)) : Evd K W te ρ (.list ds) := ev_of_en ((en_of_ef h).imp fun s ⟨es, e, q⟩ => by rw [e, q])
theorem flat_rep {α : Type} (n : Nat) (x : α) : (List.replicate n [x]).flatten = List.replicate n x := by
  induction n with
  | zero => rfl
  | succ n ih => rw [List.replicate_succ, List.flatten_cons, ih, List.replicate_succ]; rfl
theorem dpa_rep {n : Nat} (h : Dp K H v d) : DpAll K H (List.replicate n v) (List.replicate n d) := by
  induction n with
  | zero => exact .nil
  | succ n ih => rw [List.replicate_succ, List.replicate_succ]; exact .cons h ih
/-- [x] * n -/
theorem ef_rep {ta : TA} {n : Nat} (h : EvD K W ta ρ [d]) (hn : Evd K W tb ρ (.int (n : Int))) (hz : n ≤ 100000) : EvF K W (tOp rRep (tLst ta) tb) ρ (· = List.replicate n d) := fun ms B σ H g Q q =>
  ef_lst h (by show 1 ≤ 100000; omega) ms B σ H g _ fun ds p vs H1 φ g1 x1 hp e1 o1 => hn ms B σ H1 g1 _ fun y H2 g2 x2 oy => by
    subst φ
    cases oy
    cases o1 with
    | @cons v _ _ _ o1 o2 =>
      cases o2
      have hw : p ∉ W.ws := fun z => g.live.fresh hp (g.sub p z)
      refine ⟨p, n, [v], rfl, rfl, x2 p _ hw e1, by omega, by omega, by rw [List.length_singleton]; show 1 * (n : Int).toNat ≤ sizeLine; rw [Int.toNat_natCast]; exact Nat.le_trans (by omega) (show 100000 ≤ sizeLine by decide), fun p2 hp2 => ?_⟩
      rw [Int.toNat_natCast, flat_rep]
      have hw2 := (g2.fresh hp2).2.2
      have hp0 : H p2 = none := by
        cases q : H p2 with
        | none => rfl
        | some o => rw [(x1.trans x2) p2 o hw2 q] at hp2; cases hp2
      refine q _ p2 _ _ rfl (g2.same (same_put hp2)) ((x1.trans x2).trans (.of_same (same_put hp2))) hp0 upd_same (dpa_rep (dp_mono ?_ _ _ o1))
      have sub : ∀ a ∈ W.ws, a ∈ p :: ms := fun a z => List.mem_cons_of_mem _ (g.sub a z)
      exact (x2.cut sub).trans (cut_cons.trans ((cut_new hp2).trans cut_drop))
/-- list(xs) -/
theorem ef_list (h : Evd K W te ρ (.list ds)) : EvF K W (tCB (rLstOf K) (tCons te tNil)) ρ (· = ds) := fun ms B σ H g Q q => h ms B σ H g _ fun v H1 g1 x1 o1 => by
  cases o1 with
  | lst hs ha =>
    refine ⟨_, _, rfl, .inl (sql_mono cut_le hs), fun p hp => ?_⟩
    have hw := (g1.fresh hp).2.2
    have hp0 : H p = none := by
      cases q : H p with
      | none => rfl
      | some o => rw [x1 p o hw q] at hp; cases hp
    exact q _ p _ _ rfl (g1.same (same_put hp)) (x1.trans (.of_same (same_put hp))) hp0 upd_same (dpa_mono ((cut_new hp).trans cut_drop) _ _ ha)
theorem ef_lc0 {α : Type} {xs : List α} {enc f : α → PyData} {j : Nat} (sr : Src K W wi ρ (xs.map enc)) (hz : xs.length ≤ 16000000) (he : ∀ x ∈ xs, Evd K W te ((ρ.set j .emp).set j (.dat (enc x))) (f x)) :
    EvF K W (tLc wi (gName j) tYes te [j]) ρ (· = xs.map f) := by
  refine (ef_lc (K := K) (W := W) (g := gName j) (tt := tYes) (te := te) (p := fun _ => true) (Φ := fun x d => d = f x) (vs := [j]) (S := fun x => (ρ.set j .emp).set j (.dat (enc x))) sr hz (fun x _ => ⟨[j], tg_name, fun _ z => z⟩) (fun _ _ => et_yes) fun x hx _ => en_of_ev (he x hx) ⟨_, rfl, rfl⟩).imp fun es pr => ?_
  rw [List.filter_eq_self.mpr fun _ _ => rfl] at pr
  exact paired_map pr
theorem ev_lcN {α : Type} {xs : List α} {enc f : α → PyData} {vs : List Nat} {S : α → List Sl} (sr : Src K W wi ρ (xs.map enc)) (hz : xs.length ≤ 16000000)
    (tg : ∀ x ∈ xs, ∃ js, Tg K W g js (enc x) (wipeR ρ vs) (S x) ∧ ∀ j ∈ js, j ∈ vs) (he : ∀ x ∈ xs, Evd K W te (S x) (f x)) : Evd K W (tLc wi g tYes te vs) ρ (.list (xs.map f)) := by
  have h := ev_lc (tt := tYes) (p := fun _ => true) (f := f) (te := te) sr hz tg (fun _ _ => et_yes) fun x hx _ => he x hx
  rw [List.filter_eq_self.mpr fun _ _ => rfl] at h
  exact h
theorem zip_tup {α β : Type} {e1 : α → PyData} {e2 : β → PyData} : ∀ (xs : List α) (ys : List β), List.zipWith (fun a b => PyData.tuple [a, b]) (xs.map e1) (ys.map e2) = (xs.zip ys).map fun p => .tuple [e1 p.1, e2 p.2]
  | [], _ => rfl
  | _ :: _, [] => rfl
  | x :: xs, y :: ys => by
    rw [List.map_cons, List.map_cons, List.zipWith_cons_cons, zip_tup xs ys]
    rfl
theorem s_par3 {i j l : Nat} {ta : TA} {s1 s2 s3 : Sl} (h : At K W ms B ρ σ H) (e : EvA K W ta ρ [s1, s2, s3]) (k : ∀ σ' H', At K W ms B (((ρ.set i s1).set j s2).set l s3) σ' H' → XW W.ws H H' → D.nx σ' H') : tPar3 i j l ta D σ H :=
  e ms B σ H h _ fun vs H1 h1 x1 o1 => by
    cases o1 with
    | cons o1 o2 =>
      cases o2 with
      | cons o2 o3 =>
        cases o3 with
        | cons o3 o4 =>
          cases o4
          exact ⟨_, _, _, rfl, k _ H1 (((h1.set o1 i).set o2 j).set o3 l) x1⟩
theorem q_par3 {i j l : Nat} {ta : TA} {s1 s2 s3 : Sl} (h : At K W ms B ρ σ H) (e : EvA K W ta ρ [s1, s2, s3]) (k : ∀ σ' H', At K W ms B (((ρ.set i s1).set j s2).set l s3) σ' H' → XW W.ws H H' → tz D σ' H') : tSeq (tPar3 i j l ta) tz D σ H :=
  s_par3 (D := { D with nx := tz D }) h e k
theorem q_for {R S : Nat → List Sl} {X : Nat → Hp → Prop} (h : At K W ms B ρ σ H) (sr : Src K W wi ρ ds) (l0 : Le (R 0) ρ) (x0 : ∀ H1, At K W ms B ρ σ H1 → XW W.ws H H1 → X 0 H1)
    (tg : ∀ i d, ds[i]? = some d → ∃ js, Tg K W g js d (R i) (S i))
    (hs : ∀ Hb i d σ' H', ds[i]? = some d → At K W ms ⟨B.h0, Hb⟩ (S i) σ' H' → X i H' → ts { D with nx := fun σ H => At K W ms ⟨B.h0, Hb⟩ (R (i + 1)) σ H ∧ X (i + 1) H, ct := fun σ H => At K W ms ⟨B.h0, Hb⟩ (R (i + 1)) σ H ∧ X (i + 1) H, bk := tz D } σ' H')
    (hd : ∀ σ' H', At K W ms B (R ds.length) σ' H' → X ds.length H' → tz D σ' H') (xs : ∀ i H H', Same H H' → Live ms H → X i H → X i H') : tSeq (tFor wi g ts) tz D σ H :=
  s_for (D := { D with nx := tz D }) h sr l0 x0 (fun i H H' s a x => xs i H H' s a.live x) tg hs hd xs
/-- whatever is looked back to for the data -/
theorem At.un' {b : Hp} (h : At K W ms B ρ σ H) (g : At K W ms ⟨B.h0, b⟩ ρ' σ' H') (x : Same (cut ms B.hb) (cut ms H')) : At K W ms B ρ' σ' H' := ⟨g.sub, g.live, g.env, g.p, g.xw, x, g.c⟩
/-- a word between a statement and what follows -/
theorem q_cut (M : L2.St → Hp → Prop) (h : ∀ Z : L2.St → Hp → Prop, (∀ σ' H', M σ' H' → Z σ' H') → ts { D with nx := Z } σ H) (k : ∀ σ' H', M σ' H' → tz D σ' H') : tSeq ts tz D σ H := h _ k
/-- x = a new list, as one's own -/
theorem s_own {Φ : List PyData → Prop} (h : At K W ms B ρ σ H) (e : EvF K W te ρ Φ) (k : ∀ l ds σ' H', Φ ds → At K W (l :: ms) B (ρ.set i (.raw (.ref l))) σ' H' → Own K W (l :: ms) B l ds H' → l ∉ ms → B.hb l = none → D.nx σ' H') : tAsg te (gName i) D σ H :=
  e ms B σ H h _ fun ds l vs H1 φ h1 x1 hl e1 o1 => by
    obtain ⟨l0, lm, lw⟩ := h.fresh hl
    exact k l ds _ _ φ ((h.adopt x1 h1 hl e1).set (s := .raw (.ref l)) rfl i) ⟨List.mem_cons_self, lw, l0, vs, e1, o1⟩ lm (h.freshB hl)
theorem q_own' {Φ : List PyData → Prop} (h : At K W ms B ρ σ H) (e : EvF K W te ρ Φ) (k : ∀ l ds σ' H', Φ ds → At K W (l :: ms) B (ρ.set i (.raw (.ref l))) σ' H' → Own K W (l :: ms) B l ds H' → l ∉ ms → B.hb l = none → tz D σ' H') : tSeq (tAsg te (gName i)) tz D σ H :=
  s_own (D := { D with nx := tz D }) h e k
/-- l.append(e) -/
theorem s_app {Φ : PyData → Prop} (h : At K W ms B ρ σ H) (o : Own K W ms B l ds H) (hr : ρ[i]? = some (.raw (.ref l))) (hz : ds.length < 100000) (e : En K W te ρ fun s => ∃ d, s = .dat d ∧ Φ d)
    (k : ∀ d H', Φ d → At K W ms B ρ σ H' → Own K W ms B l (ds ++ [d]) H' → D.nx σ H') : tDrop (tBM K "list" rAppend (tVar i) (tCons te tNil)) D σ H := by
  obtain ⟨w, ew, ow⟩ := h.env.get hr (by intro q; cases q)
  obtain rfl : w = .ref l := ow
  obtain ⟨vs, el, dd⟩ := o.val
  refine ⟨_, ew, .inl ⟨rfl, _, .inl (.inl el)⟩, e ms B σ H h _ fun s v H1 φ h1 x1 o1 => ?_⟩
  obtain ⟨d, rfl, φ⟩ := φ
  have e1 := x1 l _ o.nws el
  refine ⟨l, vs, v, rfl, rfl, e1, Nat.lt_of_lt_of_le (by rw [dpa_len dd]; exact hz) (show 100000 ≤ sizeLine by decide), ?_⟩
  have d1 := dpa_mono (x1.cut h.sub) _ _ dd
  exact k d _ φ (h1.write o.mem o.nws o.h0) ⟨o.mem, o.nws, o.h0, vs ++ [v], upd_same, dpa_mono (cut_put (.inl o.mem)) _ _ (dpa_snoc d1 o1)⟩
theorem q_app {Φ : PyData → Prop} (h : At K W ms B ρ σ H) (o : Own K W ms B l ds H) (hr : ρ[i]? = some (.raw (.ref l))) (hz : ds.length < 100000) (e : En K W te ρ fun s => ∃ d, s = .dat d ∧ Φ d)
    (k : ∀ d H', Φ d → At K W ms B ρ σ H' → Own K W ms B l (ds ++ [d]) H' → tz D σ H') : tSeq (tDrop (tBM K "list" rAppend (tVar i) (tCons te tNil))) tz D σ H :=
  s_app (D := { D with nx := tz D }) h o hr hz e k
/-- l.reverse() -/
theorem q_rev (h : At K W ms B ρ σ H) (o : Own K W ms B l ds H) (hr : ρ[i]? = some (.raw (.ref l))) (k : ∀ H', At K W ms B ρ σ H' → Own K W ms B l ds.reverse H' → tz D σ H') : tSeq (tDrop (tBM0 K "list" rReverse (tVar i))) tz D σ H := by
  obtain ⟨w, ew, ow⟩ := h.env.get hr (by intro q; cases q)
  obtain rfl : w = .ref l := ow
  obtain ⟨vs, el, dd⟩ := o.val
  refine ⟨_, ew, .inl ⟨rfl, _, .inl (.inl el)⟩, l, vs, rfl, rfl, el, ?_⟩
  exact k _ (h.write o.mem o.nws o.h0) ⟨o.mem, o.nws, o.h0, _, upd_same, dpa_mono (cut_put (.inl o.mem)) _ _ (dpa_rev dd)⟩
/-- l[j] += e, ints -/
theorem s_augL {ns : List Int} {j : Nat} {y : Int} (h : At K W ms B ρ σ H) (o : Own K W ms B l (ns.map .int) H) (hr : ρ[i]? = some (.raw (.ref l))) (hj : j < ns.length) (hz : ns.length ≤ 100000) (ei : Evd K W ti ρ (.int (j : Int))) (ee : Evd K W te ρ (.int y))
    (k : ∀ H', At K W ms B ρ σ H' → Own K W ms B l ((ns.set j (ns[j]?.getD 0 + y)).map .int) H' → D.nx σ H') : tAugS (tVar i) ti te (rGetL K) (ipI fun i j => i + j) rSetL D σ H := by
  obtain ⟨w, ew, ow⟩ := h.env.get hr (by intro q; cases q)
  obtain rfl : w = .ref l := ow
  obtain ⟨vs, el, dd⟩ := o.val
  have ev := dpa_ints dd
  subst ev
  refine ⟨_, ew, ei ms B σ H h _ fun jv H1 h1 x1 o1 => ?_⟩
  cases o1
  have e1 := x1 l _ o.nws el
  have en : ns[j]? = some ns[j] := List.getElem?_eq_getElem hj
  refine ⟨l, ns.map V.int, j, .int ns[j], rfl, rfl, SqL.of e1, by omega, by rw [List.getElem?_map, en]; rfl, ee ms B σ H1 h1 _ fun yv H2 h2 x2 o2 => ?_⟩
  cases o2
  have e2 := x2 l _ o.nws e1
  refine ⟨ns[j], y, rfl, rfl, l, ns.map V.int, j, j, rfl, rfl, e2, ?_, ?_⟩
  · unfold ixN
    rw [if_pos (Int.natCast_nonneg j), if_pos (by rw [List.length_map]; omega), Int.toNat_natCast]
  · refine k _ (h2.write o.mem o.nws o.h0) ⟨o.mem, o.nws, o.h0, (ns.set j (ns[j]?.getD 0 + y)).map V.int, ?_, dpa_of_ints _ _ _⟩
    rw [upd_same, en, List.map_set]
    rfl
/-! ### defs that hand back a new list -/
def spF (K : PySem.W.Frag) (G : List PyData → List PyData → Prop) : Sp := fun vs H Q _ => ∃ (ms : List Addr) (ds : List PyData) (es : List PyData), Live ms H ∧ DpAll K (cut ms H) vs ds ∧ G ds es ∧
  ∀ p ws H', Same H H' → H p = none → H' p = some (.lst ws) → DpAll K (cut (p :: ms) H') ws es → Q (.ref p) H'
theorem ef_call {G : List PyData → List PyData → Prop} {es : List PyData} {ta : TA} {E : XK} (h : EvD K W ta ρ ds) (hg : G ds es) : EvF K W (tCall (spF K G) [] E ta) ρ (· = es) := fun ms B σ H a Q q => h ms B σ H a _ fun vs H1 h1 x1 o1 => by
  show spF K G (vs ++ []) H1 Q E
  rw [List.append_nil]
  refine ⟨ms, ds, es, h1.live, o1, hg, fun p ws H2 s2 hp e2 o2 => ?_⟩
  have hw := (h1.fresh hp).2.2
  have hp0 : H p = none := by
    cases q : H p with
    | none => rfl
    | some o => rw [x1 p o hw q] at hp; cases hp
  exact q es p ws H2 rfl (h1.same s2) (x1.trans (.of_same s2)) hp0 e2 o2
theorem ef_callK {G : List PyData → List PyData → Prop} {es : List PyData} {tk : TA} {gV : List V → List V → List V} {gD : List PyData → List PyData} {E : XK} (h : EvD K W tk ρ ds) (hg : G (gD ds) es) (hp : ∀ (H : Hp) (vs : List V), DpAll K H vs ds → DpAll K H (gV [] vs) (gD ds)) : EvF K W (tCallK (spF K G) gV E tNil tk) ρ (· = es) := fun ms B σ H a Q q => h ms B σ H a _ fun vs H1 h1 x1 o1 => by
  refine ⟨ms, gD ds, es, h1.live, hp _ _ o1, hg, fun p ws H2 s2 hp e2 o2 => ?_⟩
  have hw := (h1.fresh hp).2.2
  have hp0 : H p = none := by
    cases q : H p with
    | none => rfl
    | some o => rw [x1 p o hw q] at hp; cases hp
  exact q es p ws H2 rfl (h1.same s2) (x1.trans (.of_same s2)) hp0 e2 o2
def RunsF (K : PySem.W.Frag) (t : TS) (ρ : List Sl) (es : List PyData) : Prop :=
  ∀ (ms : List Addr) (σ : St) (H : Hp) (Q : VK), At K W0 ms ⟨H, H⟩ ρ σ H → (∀ p ws H', Same H H' → H p = none → H' p = some (.lst ws) → DpAll K (cut (p :: ms) H') ws es → Q (.ref p) H') → t { nx := fun _ H' => Q .non H', rt := Q } σ H
/-- return a new list -/
theorem s_retF {Φ : List PyData → Prop} (h : At K W0 ms B ρ σ H) (e : EvF K W0 te ρ Φ) (k : ∀ es p ws H', Φ es → Same B.h0 H' → B.h0 p = none → H' p = some (.lst ws) → DpAll K (cut (p :: ms) H') ws es → D.rt (.ref p) H') : tRet te D σ H :=
  e ms B σ H h _ fun es p ws H' φ g x hp e o => k es p ws H' φ (g.xw.same) (h.fresh hp).1 e o
section
variable {P : Program} {w : World} {mg : Str → Option Value} {base : Heap}
theorem pureOkF {x qual : Str} {st : Stmt} {f : Addr} {fd : FuncData} {N ps : List Str} {k : Nat} {G : List PyData → List PyData → Prop} (F : Fun K x qual st f fd) (S : FnScope N ps (defScope st)) (hG : ∀ ds d, G ds d → ds.length = ps.length)
    (hb : ∀ (cdv : Value) (A : Around) (outer : List Env) (s : Shared) (H : Hp) (E : XK), Room k (A.deeper (envOfC qual (defScope st) s.heap.objs.size f cdv)) →
      ∃ t, PSs (cxOf CX0 P w K mg base N qual (defScope st) f cdv A outer s H E).nox (defBody st) t ∧ ∀ ds d, G ds d → RunsF K t (slots N.length ds) d) : FnOk P w K mg base CX0 (k + 1) f fd ps (spF K G) := by
  refine F.ok S (fun vs H Q E h => ?_) fun cdv A outer s H vs Q E hr h => ?_
  · obtain ⟨ms, ds, d, l, o, g, _⟩ := h
    rw [dpa_len o, hG ds d g]
  · obtain ⟨ms, ds, d, l, o, g, q⟩ := h
    obtain ⟨t, ht, hr⟩ := hb cdv A outer s H E hr
    exact ⟨t, ht, hr ds d g ms _ H Q (at_start l o) fun p ws H' s hp e od => q p ws H' s hp e od⟩
end
end
end Fw

/-! The frame, 6: the rules again, what is closed in them left to the kernel. -/
namespace Fw
open PySem L2
section
variable {X : Cx} {x : Str} {pos pos' p : Pos} {e : Expr} {es : List Expr} {te : TE} {t : TA} {g : TG}
theorem kvl (i : Nat) (hN : X.N[i]? = some x := by kernel_rfl) (hv : X.env.scope.names.lookup x = some .local := by kernel_rfl) (h1 : (x == ("__debug__" : Str)) = false := by kernel_rfl) (h2 : (x == ("__classdict__" : Str)) = false := by kernel_rfl) : PE X (.Name x pos) (tVar i) := pe_var hN (.inl hv) h1 h2
theorem kvc (i : Nat) (hN : X.N[i]? = some x := by kernel_rfl) (hv : X.env.scope.names.lookup x = some .cell := by kernel_rfl) (h1 : (x == ("__debug__" : Str)) = false := by kernel_rfl) (h2 : (x == ("__classdict__" : Str)) = false := by kernel_rfl) : PE X (.Name x pos) (tVar i) := pe_var hN (.inr (.inl hv)) h1 h2
theorem kvf (i : Nat) (hN : X.N[i]? = some x := by kernel_rfl) (hv : X.env.scope.names.lookup x = some .free := by kernel_rfl) (h1 : (x == ("__debug__" : Str)) = false := by kernel_rfl) (h2 : (x == ("__classdict__" : Str)) = false := by kernel_rfl) : PE X (.Name x pos) (tVar i) := pe_var hN (.inr (.inr hv)) h1 h2
theorem kgl (i : Nat) (nd : X.N.Nodup) (hN : X.N[i]? = some x := by kernel_rfl) (hv : X.env.scope.names.lookup x = some .local := by kernel_rfl) : PG X (.Name x pos) (gName i) := pg_name nd hN (.inl hv) (.inr hv)
theorem kgc (i : Nat) (nd : X.N.Nodup) (hN : X.N[i]? = some x := by kernel_rfl) (hv : X.env.scope.names.lookup x = some .cell := by kernel_rfl) (hf : X.fn x = true := by kernel_rfl) : PG X (.Name x pos) (gName i) := pg_name nd hN (.inr hv) (.inl hf)
theorem kgs {e : Expr} {es : List Expr} {u : TGs} (h1 : PG X e g) (h2 : PGs X es u) (hs : (assignEach (e :: es) X.env).map (·.2) = assign e X.env :: (assignEach es X.env).map (·.2) := by kernel_rfl) : PGs X (e :: es) (gCons g u) := pgs_cons h1 h2 hs
theorem kgt {k n : Nat} {u : TGs} (hc : X.calm = true) (h : PGs X es u) (hn : (assignEach es X.env).length = n := by kernel_rfl) (hs : (assignEach es X.env).findIdx? (·.1) = none := by kernel_rfl) : PG X (.Tuple es k pos) (gTup X.K n u) := pg_tup hc h hn hs
theorem ksl (i : Nat) (nd : X.N.Nodup) (he : PE X e te) (hN : X.N[i]? = some x := by kernel_rfl) (hv : X.env.scope.names.lookup x = some .local := by kernel_rfl) (hs : swapsWith e (some (.Name x pos')) pos.line X.env = pure false := by kernel_rfl) : PS X (.Assign [.Name x pos'] e pos) (tAsg te (gName i)) := ps_set nd hN (.inl hv) he hs (.inr hv)
theorem ksc (i : Nat) (nd : X.N.Nodup) (he : PE X e te) (hN : X.N[i]? = some x := by kernel_rfl) (hv : X.env.scope.names.lookup x = some .cell := by kernel_rfl) (hs : swapsWith e (some (.Name x pos')) pos.line X.env = pure false := by kernel_rfl) (hf : X.fn x = true := by kernel_rfl) : PS X (.Assign [.Name x pos'] e pos) (tAsg te (gName i)) := ps_set nd hN (.inr hv) he hs (.inl hf)
theorem kpa (ha : PE X e te) (hr : PA X es t) (hs : starEach (e :: es) X.env = (false, eval e X.env) :: starEach es X.env := by kernel_rfl) : PA X (e :: es) (tCons te t) := pa_cons ha hr hs
theorem kasg {tg : Expr} (he : PE X e te) (hg : PG X tg g) (h1 : swapsWithSole [tg] e pos.line X.env = pure false := by kernel_rfl) (h2 : swappedStores [tg] e X.env = pure none := by kernel_rfl) (h3 : (assignEach [tg] X.env).map (·.2) = [assign tg X.env] := by kernel_rfl) : PS X (.Assign [tg] e pos) (tAsg te g) := ps_asg he hg h1 h2 h3
theorem kexpr (he : PE X e te) (hs : swapsWith e none pos.line X.env = pure false := by kernel_rfl) : PS X (.Expr e pos) (tDrop te) := ps_expr he hs
theorem kcall {k : Nat} {f : Addr} {fd : FuncData} {ps : List Str} {sp : Sp} (F : FnOk X.prog X.w X.K X.mg X.base CX0 k f fd ps sp) (hr : Room k X.A) (hm : X.mg x = some (.ref f)) (hk : PySem.W.keepIn X.K (.ref f) = true) (hb : Binds X.K fd ps []) (ha : PA X (e :: es) t)
    (hg : X.env.kindOf x = some .globalImplicit := by kernel_rfl) (h1 : (x == ("__debug__" : Str)) = false := by kernel_rfl) (h2 : starEach (e :: es) X.env = (false, eval e X.env) :: starEach es X.env := by kernel_rfl) (h3 : (backTo pos (starEach es X.env)).any (·.1) = false := by kernel_rfl) :
    PE X (.Call (.Name x p) (e :: es) [] pos) (tCall sp [] E0 t) := pe_call F hr hg hm hk hb .nil pass0 ha h1 h2 h3
theorem kB {id : String} {r : List V → Hp → VK → Prop} (hc : CallR X (.builtin id) r) (hm : X.mg x = none) (ha : PA X (e :: es) t) (hg : X.env.kindOf x = some .globalImplicit := by kernel_rfl) (hv : bootBuiltins x = some (.builtin id) := by kernel_rfl) (hn : (x == ("__name__" : Str)) = false := by kernel_rfl) (h1 : (x == ("__debug__" : Str)) = false := by kernel_rfl)
    (h2 : starEach (e :: es) X.env = (false, eval e X.env) :: starEach es X.env := by kernel_rfl) (h3 : (backTo pos (starEach es X.env)).any (·.1) = false := by kernel_rfl) : PE X (.Call (.Name x p) (e :: es) [] pos) (tCB r t) := pe_callB hc hg hm hv ha (fun q => by subst q; exact absurd hn (by decide +kernel)) h1 h2 h3
theorem kTy {T : String} {r : List V → Hp → VK → Prop} (hc : CallR X (.type T) r) (hm : X.mg x = none) (ha : PA X (e :: es) t) (hg : X.env.kindOf x = some .globalImplicit := by kernel_rfl) (hv : bootBuiltins x = some (.type T) := by kernel_rfl) (hn : (x == ("__name__" : Str)) = false := by kernel_rfl) (h1 : (x == ("__debug__" : Str)) = false := by kernel_rfl)
    (h2 : starEach (e :: es) X.env = (false, eval e X.env) :: starEach es X.env := by kernel_rfl) (h3 : (backTo pos (starEach es X.env)).any (·.1) = false := by kernel_rfl) : PE X (.Call (.Name x p) (e :: es) [] pos) (tCB r t) := pe_callTy hc hg hm hv ha (fun q => by subst q; exact absurd hn (by decide +kernel)) h1 h2 h3
theorem kBf {id : String} {r : List V → Hp → VK → Prop} (hc : CallR X (.builtin id) r) (hm : X.mg x = some (.builtin id)) (ha : PA X (e :: es) t) (hg : X.env.kindOf x = some .globalImplicit := by kernel_rfl) (h1 : (x == ("__debug__" : Str)) = false := by kernel_rfl)
    (h2 : starEach (e :: es) X.env = (false, eval e X.env) :: starEach es X.env := by kernel_rfl) (h3 : (backTo pos (starEach es X.env)).any (·.1) = false := by kernel_rfl) : PE X (.Call (.Name x p) (e :: es) [] pos) (tCB r t) := pe_callBfun hc hg hm ha h1 h2 h3
theorem kty {T : String} (hm : X.mg x = none) (hg : X.env.kindOf x = some .globalImplicit := by kernel_rfl) (hv : bootBuiltins x = some (.type T) := by kernel_rfl) (hn : (x == ("__name__" : Str)) = false := by kernel_rfl) (h1 : (x == ("__debug__" : Str)) = false := by kernel_rfl) : PE X (.Name x pos) (tC (.ty T)) :=
  pe_bltn (v := .ty T) hg hm hv rfl (fun q => by subst q; exact absurd hn (by decide +kernel)) h1
theorem kgc' {v : V} (h : ∃ u, X.mg x = some u ∧ RelV v u) (hg : X.env.kindOf x = some .globalImplicit := by kernel_rfl) (h1 : (x == ("__debug__" : Str)) = false := by kernel_rfl) : PE X (.Name x pos) (tC v) := C8.pe_gc hg h h1
theorem krg1 {tg a : Expr} {ta : TA} (hm : X.mg "range" = none) (ha : PA X [a] ta) (hg : X.env.kindOf "range" = some .globalImplicit := by kernel_rfl) (hs : starEach [a] X.env = [(false, eval a X.env)] := by kernel_rfl) : PI X tg (.Call (.Name "range" p) [a] [] pos) (iRng1 ta) := pi_range1 hg hm ha hs
theorem krg2 {tg a b : Expr} {ta : TA} (hm : X.mg "range" = none) (ha : PA X [a, b] ta) (hg : X.env.kindOf "range" = some .globalImplicit := by kernel_rfl) (hs : starEach [a, b] X.env = [(false, eval a X.env), (false, eval b X.env)] := by kernel_rfl) (hs2 : starEach [b] X.env = [(false, eval b X.env)] := by kernel_rfl) : PI X tg (.Call (.Name "range" p) [a, b] [] pos) (iRng2 ta) := pi_range2 hg hm ha hs hs2
theorem kzip {elts : List Expr} {kk : Nat} {tpos : Pos} {e e2 : Expr} {ta : TA} (hm : X.mg "zip" = none) (ha : PA X [e, e2] ta) (hg : X.env.kindOf "zip" = some .globalImplicit := by kernel_rfl) (hs : starEach [e, e2] X.env = (false, eval e X.env) :: starEach [e2] X.env := by kernel_rfl) (h3 : (backTo pos (starEach [e2] X.env)).any (·.1) = false := by kernel_rfl) : PI X (.Tuple elts kk tpos) (.Call (.Name "zip" p) [e, e2] [] pos) (RZ.iZipA X.K ta) := RZ.pi_zipA hg hm ha hs h3
theorem kmeth0 {T m : String} {name : Str} {id : String} {r : V → List V → Hp → VK → Prop} {o : Expr} {to : TE} {apos : Pos} (pa : PlainAttrs T) (slot : Slot T name id) (hty : typeOf (.builtin id) = pure (.type "method_descriptor")) (hm : MtR X id r) (ho : PE X o to)
    (h1 : attributeBase o name X.env (eval o X.env) = eval o X.env := by kernel_rfl) (h2 : (apos.endLine == pos.line) = true := by kernel_rfl) : PE X (.Call (.Attribute o name apos) [] [] pos) (tBM0 X.K T r to) := pe_bm0 pa slot hty hm ho h1 h2
theorem kmeth {T : String} {name : Str} {id : String} {r : V → List V → Hp → VK → Prop} {o : Expr} {to : TE} {apos : Pos} (pa : PlainAttrs T) (slot : Slot T name id) (hty : typeOf (.builtin id) = pure (.type "method_descriptor")) (hm : MtR X id r) (ho : PE X o to) (ha : PA X (e :: es) t)
    (h1 : attributeBase o name X.env (eval o X.env) = eval o X.env := by kernel_rfl)
    (h2 : ((backTo pos (starEach (e :: es) X.env)).all (fun x => !x.1) && (backToKw pos (keywordEach [] X.env)).all (fun x => x.1.isSome) && decide ((e :: es).length + ([] : List Keyword).length + (if ([] : List Keyword).isEmpty then 0 else 1) < 30)) = true := by kernel_rfl)
    (h3 : (apos.endLine == pos.line) = true := by kernel_rfl) (h4 : starEach (e :: es) X.env = (false, eval e X.env) :: starEach es X.env := by kernel_rfl) (h5 : (backTo pos (starEach es X.env)).any (·.1) = false := by kernel_rfl) : PE X (.Call (.Attribute o name apos) (e :: es) [] pos) (tBM X.K T r to t) := pe_bm pa slot hty hm ho ha h1 h2 h3 h4 h5
theorem kswap {elt : Expr} {gs : List Comprehension} {scope : Scope} {pos py : Pos} {y : Str} {l : Nat} {env : Env} (hk : env.scope.kind = .function := by kernel_rfl) (hy : env.scope.names.lookup y = some .local := by kernel_rfl) (hl : (py.line == pos.line) = true := by kernel_rfl)
    (ha : (scope.names.any fun (n, k) => n == y && (k == .local || k == .cell)) = false := by kernel_rfl) : swapsWith (.ListComp elt gs scope pos) (some (.Name y py)) l env = pure true := sw_true hk hy hl ha
theorem kpar {i j : Nat} {x y : Str} {a b : Expr} {ta : TA} {px py pt : Pos} {kt k2 pt2} (hc : X.calm = true) (hN : X.N.Nodup) (hij : i ≠ j) (ha : PA X [a, b] ta) (hi : X.N[i]? = some x := by kernel_rfl) (hj : X.N[j]? = some y := by kernel_rfl)
    (hx : X.env.scope.names.lookup x = some .local := by kernel_rfl) (hy : X.env.scope.names.lookup y = some .local := by kernel_rfl) (hw : swappedStores [.Tuple [.Name x px, .Name y py] kt pt] (.Tuple [a, b] k2 pt2) X.env = pure (some [x, y]) := by kernel_rfl)
    (hs : swapsWithSole [.Tuple [.Name x px, .Name y py] kt pt] (.Tuple [a, b] k2 pt2) pos.line X.env = pure false := by kernel_rfl) : PS X (.Assign [.Tuple [.Name x px, .Name y py] kt pt] (.Tuple [a, b] k2 pt2) pos) (tPar i j ta) := ps_par hc hN hi hj hij hx hy ha hw hs
theorem kpar3 {i j l : Nat} {x y z : Str} {a b c : Expr} {ta : TA} {px py pz pt : Pos} {kt k2 pt2} (hc : X.calm = true) (hN : X.N.Nodup) (hij : i ≠ j) (hil : i ≠ l) (hjl : j ≠ l) (ha : PA X [a, b, c] ta) (hi : X.N[i]? = some x := by kernel_rfl) (hj : X.N[j]? = some y := by kernel_rfl) (hl : X.N[l]? = some z := by kernel_rfl)
    (hx : X.env.scope.names.lookup x = some .local := by kernel_rfl) (hy : X.env.scope.names.lookup y = some .local := by kernel_rfl) (hz : X.env.scope.names.lookup z = some .local := by kernel_rfl)
    (hw : swappedStores [.Tuple [.Name x px, .Name y py, .Name z pz] kt pt] (.Tuple [a, b, c] k2 pt2) X.env = pure (some [x, y, z]) := by kernel_rfl)
    (hs : swapsWithSole [.Tuple [.Name x px, .Name y py, .Name z pz] kt pt] (.Tuple [a, b, c] k2 pt2) pos.line X.env = pure false := by kernel_rfl) : PS X (.Assign [.Tuple [.Name x px, .Name y py, .Name z pz] kt pt] (.Tuple [a, b, c] k2 pt2) pos) (tPar3 i j l ta) := ps_par3 hc hN hi hj hl hij hil hjl hx hy hz ha hw hs
theorem kval (h : PE X e te) (he : ∀ whole, isTrue e X.env whole = (do let v ← whole; standAt e.pos; holding [v] (truthy v)) := by exact fun _ => by kernel_rfl) : PT X e (tB te) := pt_val h he
end
end Fw

/-! The frame, 7: one of several things; the laws' source of draws. -/
namespace Fw
open PySem L2
open PyProof.Rows (envOfC)
/-! ### data that == can look at -/
def Shp (n : Nat) (d : PyData) : Prop := d.canLay0 = true ∧ d.depth ≤ n
theorem Shp.shaped {n : Nat} {d : PyData} (h : Shp n d) (hn : n ≤ 64) : SeqAt.shaped d = true := by
  unfold SeqAt.shaped
  rw [h.1, decide_eq_true (Nat.le_trans h.2 hn)]
  rfl
theorem shp_none : Shp 0 .none := ⟨rfl, Nat.le_refl _⟩
theorem shp_bool (b : Bool) : Shp 0 (.bool b) := ⟨rfl, Nat.le_refl _⟩
theorem shp_int (i : Int) : Shp 0 (.int i) := ⟨rfl, Nat.le_refl _⟩
theorem shp_str {x : Str} (h : (PyData.str x).canLay0 = true) : Shp 0 (.str x) := ⟨h, Nat.le_refl _⟩
theorem Shp.mono {n m : Nat} {d : PyData} (h : Shp n d) (l : n ≤ m) : Shp m d := ⟨h.1, Nat.le_trans h.2 l⟩
theorem shp_all {n : Nat} : ∀ {ds : List PyData}, (∀ d ∈ ds, Shp n d) → PyData.canLayAll0 ds = true ∧ PyData.depthAll ds ≤ n
  | [], _ => ⟨by simp [PyData.canLayAll0], by simp [PyData.depthAll]⟩
  | d :: ds, h => by
    have h1 := h d List.mem_cons_self
    have h2 := shp_all (ds := ds) fun x hx => h x (List.mem_cons_of_mem _ hx)
    refine ⟨?_, ?_⟩
    · simp only [PyData.canLayAll0, h1.1, h2.1, Bool.and_self]
    · simp only [PyData.depthAll]
      exact Nat.max_le.mpr ⟨h1.2, h2.2⟩
theorem shp_list {n : Nat} {ds : List PyData} (h : ∀ d ∈ ds, Shp n d) : Shp (n + 1) (.list ds) := by
  obtain ⟨h1, h2⟩ := shp_all h
  refine ⟨?_, ?_⟩
  · simp only [PyData.canLay0]; exact h1
  · simp only [PyData.depth]; omega
theorem shp_tuple {n : Nat} {ds : List PyData} (h : ∀ d ∈ ds, Shp n d) : Shp (n + 1) (.tuple ds) := by
  obtain ⟨h1, h2⟩ := shp_all h
  refine ⟨?_, ?_⟩
  · simp only [PyData.canLay0]; exact h1
  · simp only [PyData.depth]; omega
theorem shp_ints (ns : List Int) : Shp 1 (.list (ns.map .int)) := shp_list fun d hd => by
  obtain ⟨n, _, rfl⟩ := List.mem_map.mp hd
  exact shp_int n

section
variable {K : PySem.W.Frag} {W : Wd} {ms : List Addr} {B : Bs} {H H' : Hp} {ρ ρ' ρ1 : List Sl} {σ σ' : L2.St} {d : PyData} {ds : List PyData} {s s1 s2 : Sl} {v : V} {vs : List V} {l : Addr} {i : Nat}
  {ta tb tc te tx tl ti tv tm : TE} {tt t u : TT} {wi : TI} {g : TG} {D : Ends} {ts ts' tz : TS} {Φ Φ1 Φ2 : Sl → Prop}
/-! ### one of several things -/
def IsI (Ψ : Int → Prop) : Sl → Prop := fun s => ∃ n : Int, s = .dat (.int n) ∧ Ψ n
def IsD (Ψ : PyData → Prop) : Sl → Prop := fun s => ∃ d : PyData, s = .dat d ∧ Ψ d
theorem en_op {r : R2} (ha : En K W ta ρ Φ1) (hb : En K W tb ρ Φ2) (hr : ∀ s1 s2, Φ1 s1 → Φ2 s2 → ∃ s, Φ s ∧ Rs K r s1 s2 s) : En K W (tOp r ta tb) ρ Φ := fun ms B σ H h Q q =>
  ha ms B σ H h _ fun s1 x H1 φ1 h1 x1 o1 => hb ms B σ H1 h1 _ fun s2 y H2 φ2 h2 x2 o2 => by
    obtain ⟨s, φ, rs⟩ := hr s1 s2 φ1 φ2
    exact rs ms H2 x y h2.live (o1.mono (x2.cut h2.sub)) o2 Q fun v H3 s3 o3 => q s v H3 φ (h2.same s3) ((x1.trans x2).trans (.of_same s3)) o3
theorem en_I0 {Ψ1 Ψ2 Ψ : Int → Prop} {f : Int → Int → Int} (ha : En K W ta ρ (IsI Ψ1)) (hb : En K W tb ρ (IsI Ψ2)) (h : ∀ i j, Ψ1 i → Ψ2 j → Ψ (f i j)) : En K W (tOp (rI0 fun i j => .int (f i j)) ta tb) ρ (IsI Ψ) :=
  en_op ha hb fun s1 s2 ⟨i, e1, p1⟩ ⟨j, e2, p2⟩ => by
    subst e1 e2
    exact ⟨_, ⟨_, rfl, h i j p1 p2⟩, rs_I0 fun _ => .int _⟩
theorem en_I {Ψ1 Ψ2 Ψ : Int → Prop} {C : Int → Int → Prop} {f : Int → Int → Int} (ha : En K W ta ρ (IsI Ψ1)) (hb : En K W tb ρ (IsI Ψ2)) (hc : ∀ i j, Ψ1 i → Ψ2 j → C i j) (h : ∀ i j, Ψ1 i → Ψ2 j → Ψ (f i j)) : En K W (tOp (rI C fun i j => .int (f i j)) ta tb) ρ (IsI Ψ) :=
  en_op ha hb fun s1 s2 ⟨i, e1, p1⟩ ⟨j, e2, p2⟩ => by
    subst e1 e2
    exact ⟨_, ⟨_, rfl, h i j p1 p2⟩, rs_I (fun _ => .int _) (hc i j p1 p2)⟩
theorem en_int {i : Int} {Ψ : Int → Prop} (h : Ψ i) : En K W (tC (.int i)) ρ (IsI Ψ) := en_of_ev ev_int ⟨i, rfl, h⟩
theorem en_evi {n : Int} {Ψ : Int → Prop} (e : Evd K W te ρ (.int n)) (h : Ψ n) : En K W te ρ (IsI Ψ) := en_of_ev e ⟨n, rfl, h⟩
theorem en_toInt {Ψ : Int → Prop} (h : En K W te ρ (IsI Ψ)) : En K W (tCB rInt1 (tCons te tNil)) ρ (IsI Ψ) := fun ms B σ H a Q q => h ms B σ H a _ fun s v H1 φ h1 x1 o1 => by
  obtain ⟨n, rfl, p⟩ := φ
  cases o1
  exact .inl ⟨_, rfl, q (.dat (.int n)) _ H1 ⟨n, rfl, p⟩ h1 x1 (.int n)⟩
theorem en_eqI {Ψ1 : Int → Prop} {j : Int} (ha : En K W ta ρ (IsI Ψ1)) (hb : Evd K W tb ρ (.int j)) : EnT K W (tTest (tOp rEq ta tb)) ρ (fun _ => True) := fun ms B σ H a Q q => ha ms B σ H a _ fun s v H1 φ h1 x1 o1 => hb ms B σ H1 h1 _ fun w H2 h2 x2 o2 => by
  obtain ⟨n, rfl, p⟩ := φ
  cases o1
  cases o2
  exact ⟨rfl, _, rfl, q _ H2 trivial h2 (x1.trans x2)⟩
theorem ent_of {b : Bool} {Ψ : Bool → Prop} (h : EvT K W tt ρ b) (φ : Ψ b) : EnT K W tt ρ Ψ := fun ms B σ H a Q q => h ms B σ H a _ fun H1 h1 x1 => q b H1 φ h1 x1
theorem en_if {Ψ : Bool → Prop} (h : EnT K W tt ρ Ψ) (h1 : Ψ true → En K W ta ρ Φ) (h2 : Ψ false → En K W tb ρ Φ) : En K W (tIf tt ta tb) ρ Φ := fun ms B σ H g Q q => h ms B σ H g _ fun b H1 ψ g1 x1 => by
  cases b with
  | true => exact iteT (h1 ψ ms B σ H1 g1 Q fun s v H2 φ g2 x2 o2 => q s v H2 φ g2 (x1.trans x2) o2)
  | false => exact iteF (h2 ψ ms B σ H1 g1 Q fun s v H2 φ g2 x2 o2 => q s v H2 φ g2 (x1.trans x2) o2)
theorem ent_and {Ψ1 Ψ2 : Bool → Prop} (h1 : EnT K W t ρ Ψ1) (h2 : Ψ1 true → EnT K W u ρ Ψ2) : EnT K W (tAnd t u) ρ (fun b => (Ψ1 true ∧ Ψ2 b) ∨ (Ψ1 false ∧ b = false)) := fun ms B σ H g Q q => h1 ms B σ H g _ fun b H1 ψ g1 x1 => by
  cases b with
  | true => exact iteT (h2 ψ ms B σ H1 g1 Q fun b H2 φ g2 x2 => q b H2 (.inl ⟨ψ, φ⟩) g2 (x1.trans x2))
  | false => exact iteF (q false H1 (.inr ⟨ψ, rfl⟩) g1 x1)
/-- arguments, of several things -/
def EnD (K : PySem.W.Frag) (W : Wd) (ta : TA) (ρ : List Sl) (Ψ : List PyData → Prop) : Prop :=
  ∀ (ms : List Addr) (B : Bs) (σ : L2.St) (H : Hp), At K W ms B ρ σ H → ∀ Q : List V → Hp → Prop, (∀ ds vs H', Ψ ds → At K W ms B ρ σ H' → XW W.ws H H' → DpAll K (cut ms H') vs ds → Q vs H') → ta σ H Q
theorem end_of {ta : TA} {Ψ : List PyData → Prop} (h : EvD K W ta ρ ds) (ψ : Ψ ds) : EnD K W ta ρ Ψ := fun ms B σ H a Q q => h ms B σ H a Q fun vs H1 h1 x1 o1 => q ds vs H1 ψ h1 x1 o1
theorem end_nil : EnD K W tNil ρ (· = []) := end_of ed_nil rfl
theorem end_cons {tr : TA} {Ψ1 : PyData → Prop} {Ψ2 : List PyData → Prop} (h : En K W ta ρ (IsD Ψ1)) (hr : EnD K W tr ρ Ψ2) : EnD K W (tCons ta tr) ρ (fun ds => ∃ d es, ds = d :: es ∧ Ψ1 d ∧ Ψ2 es) := fun ms B σ H g Q q =>
  h ms B σ H g _ fun s x H1 φ g1 x1 o1 => hr ms B σ H1 g1 _ fun es xs H2 ψ g2 x2 o2 => by
    obtain ⟨d, rfl, φ⟩ := φ
    exact q (d :: es) _ H2 ⟨d, es, rfl, φ, ψ⟩ g2 (x1.trans x2) (.cons (o1.mono (x2.cut g2.sub)) o2)
theorem EnD.imp {ta : TA} {Ψ Ψ' : List PyData → Prop} (h : EnD K W ta ρ Ψ) (i : ∀ ds, Ψ ds → Ψ' ds) : EnD K W ta ρ Ψ' := fun ms B σ H a Q q => h ms B σ H a Q fun ds vs H1 ψ => q ds vs H1 (i ds ψ)
theorem en_tup {ta : TA} {Ψ : List PyData → Prop} (h : EnD K W ta ρ Ψ) (hl : ∀ ds, Ψ ds → ds.length ≤ 100000) : En K W (tTup ta) ρ (IsD fun d => ∃ ds, d = .tuple ds ∧ Ψ ds) := fun ms B σ H g Q q => h ms B σ H g _ fun ds vs H1 ψ g1 x1 o1 =>
  ⟨by rw [dpa_len o1]; exact le_line (hl ds ψ), fun p hp => q (.dat (.tuple ds)) _ _ ⟨_, rfl, ds, rfl, ψ⟩ (g1.same (same_put hp)) (x1.trans (.of_same (same_put hp))) (Sl.new_tup g1.live hp o1)⟩
theorem en_lst {ta : TA} {Ψ : List PyData → Prop} (h : EnD K W ta ρ Ψ) (hl : ∀ ds, Ψ ds → ds.length ≤ 100000) : En K W (tLst ta) ρ (IsD fun d => ∃ ds, d = .list ds ∧ Ψ ds) := fun ms B σ H g Q q => h ms B σ H g _ fun ds vs H1 ψ g1 x1 o1 =>
  ⟨by rw [dpa_len o1]; exact le_line (hl ds ψ), fun p hp => q (.dat (.list ds)) _ _ ⟨_, rfl, ds, rfl, ψ⟩ (g1.same (same_put hp)) (x1.trans (.of_same (same_put hp))) (Sl.new_lst g1.live hp o1)⟩
theorem en_tupL {Ψ : List PyData → Prop} (h : En K W te ρ (IsD fun d => ∃ ds, d = .list ds ∧ Ψ ds)) : En K W (tCB (rTupOf K) (tCons te tNil)) ρ (IsD fun d => ∃ ds, d = .tuple ds ∧ Ψ ds) := fun ms B σ H g Q q => h ms B σ H g _ fun s v H1 φ g1 x1 o1 => by
  obtain ⟨d, rfl, ds, rfl, ψ⟩ := φ
  cases o1 with
  | lst hs ha => exact ⟨_, _, rfl, .inl ⟨sql_mono cut_le hs, fun p hp => q (.dat (.tuple ds)) _ _ ⟨_, rfl, ds, rfl, ψ⟩ (g1.same (same_put hp)) (x1.trans (.of_same (same_put hp))) (Sl.new_tup g1.live hp ha)⟩⟩
/-! statements -/
theorem s_asgN {j : Nat} (h : At K W ms B ρ σ H) (e : En K W te ρ Φ) (k : ∀ s σ' H', Φ s → At K W ms B (ρ.set j s) σ' H' → D.nx σ' H') : tAsg te (gName j) D σ H := e ms B σ H h _ fun s v H1 φ h1 x1 o1 => k s _ H1 φ (h1.set o1 j)
theorem q_asgN {j : Nat} (h : At K W ms B ρ σ H) (e : En K W te ρ Φ) (k : ∀ s σ' H', Φ s → At K W ms B (ρ.set j s) σ' H' → tz D σ' H') : tSeq (tAsg te (gName j)) tz D σ H := s_asgN (D := { D with nx := tz D }) h e k
theorem s_ifN {Ψ : Bool → Prop} (h : At K W ms B ρ σ H) (e : EnT K W tt ρ Ψ) (k1 : Ψ true → ∀ H', At K W ms B ρ σ H' → ts D σ H') (k2 : Ψ false → ∀ H', At K W ms B ρ σ H' → ts' D σ H') : tIfS tt ts ts' D σ H := e ms B σ H h _ fun b H1 ψ h1 x1 => by
  cases b with
  | true => exact iteT (k1 ψ H1 h1)
  | false => exact iteF (k2 ψ H1 h1)
theorem s_retN (h : At K W ms B ρ σ H) (e : En K W te ρ Φ) (k : ∀ s v H', Φ s → At K W ms B [] [] H' → s.ok K (cut ms H') v → D.rt v H') : tRet te D σ H := e ms B σ H h _ fun s v H1 φ h1 x1 o1 => k s v H1 φ h1.nil o1
theorem q_parN {j k : Nat} {ta tb : TE} (h : At K W ms B ρ σ H) (e1 : En K W ta ρ Φ1) (e2 : En K W tb ρ Φ2) (kk : ∀ s1 s2 σ' H', Φ1 s1 → Φ2 s2 → At K W ms B ((ρ.set j s1).set k s2) σ' H' → tz D σ' H') : tSeq (tPar j k (tCons ta (tCons tb tNil))) tz D σ H :=
  e1 ms B σ H h _ fun s1 v1 H1 φ1 h1 x1 o1 => e2 ms B σ H1 h1 _ fun s2 v2 H2 φ2 h2 x2 o2 => ⟨v1, v2, rfl, kk s1 s2 _ H2 φ1 φ2 ((h2.set (o1.mono (x2.cut h2.sub)) j).set o2 k)⟩
/-- the for, with something of each turn that is told of no one -/
theorem s_forE {α : Type} {R S : Nat → α → List Sl} {X : Nat → α → Hp → Prop} (p0 : α) (h : At K W ms B ρ σ H) (sr : Src K W wi ρ ds) (l0 : Le (R 0 p0) ρ) (x0 : ∀ H1, At K W ms B ρ σ H1 → XW W.ws H H1 → X 0 p0 H1)
    (tg : ∀ i p d, ds[i]? = some d → ∃ js, Tg K W g js d (R i p) (S i p))
    (hs : ∀ Hb i p d σ' H', ds[i]? = some d → At K W ms ⟨B.h0, Hb⟩ (S i p) σ' H' → X i p H' → ts { D with nx := fun σ H => ∃ p', At K W ms ⟨B.h0, Hb⟩ (R (i + 1) p') σ H ∧ X (i + 1) p' H, ct := fun σ H => ∃ p', At K W ms ⟨B.h0, Hb⟩ (R (i + 1) p') σ H ∧ X (i + 1) p' H, bk := D.nx } σ' H')
    (hd : ∀ p σ' H', At K W ms B (R ds.length p) σ' H' → X ds.length p H' → D.nx σ' H') (xs : ∀ i p H H', Same H H' → Live ms H → X i p H → X i p H') : tFor wi g ts D σ H := sr ms B σ H h _ fun J H1 h1 x1 stm => by
  obtain ⟨G, Y, wk, st⟩ := stm
  refine for_it wk (fun i σ H => ∃ p, At K W ms ⟨B.h0, H1⟩ (R i p) σ H ∧ X i p H) ⟨p0, h1.re.le l0, x0 H1 h1 x1⟩ (fun i σ H _ ⟨p, a, _⟩ => (st ms H a.st).1) (fun i x σ H H' hi ⟨p, a, xx⟩ y => ?_) fun σ H ⟨p, a, xx⟩ => hd p σ H (h1.un a) xx
  obtain ⟨s, hdt⟩ := (st ms H a.st).2 i x H' a.live y
  have hx : ds[i]? = some ds[i] := List.getElem?_eq_getElem hi
  obtain ⟨js, tj⟩ := tg i p _ hx
  exact tj ms _ σ H' x (a.same s) (hdt _ hx) _ fun σ2 h2 _ => hs H1 i p _ σ2 H' hx h2 (xs i p H H' s a.live xx)
theorem q_forE {α : Type} {R S : Nat → α → List Sl} {X : Nat → α → Hp → Prop} (p0 : α) (h : At K W ms B ρ σ H) (sr : Src K W wi ρ ds) (l0 : Le (R 0 p0) ρ) (x0 : ∀ H1, At K W ms B ρ σ H1 → XW W.ws H H1 → X 0 p0 H1)
    (tg : ∀ i p d, ds[i]? = some d → ∃ js, Tg K W g js d (R i p) (S i p))
    (hs : ∀ Hb i p d σ' H', ds[i]? = some d → At K W ms ⟨B.h0, Hb⟩ (S i p) σ' H' → X i p H' → ts { D with nx := fun σ H => ∃ p', At K W ms ⟨B.h0, Hb⟩ (R (i + 1) p') σ H ∧ X (i + 1) p' H, ct := fun σ H => ∃ p', At K W ms ⟨B.h0, Hb⟩ (R (i + 1) p') σ H ∧ X (i + 1) p' H, bk := tz D } σ' H')
    (hd : ∀ p σ' H', At K W ms B (R ds.length p) σ' H' → X ds.length p H' → tz D σ' H') (xs : ∀ i p H H', Same H H' → Live ms H → X i p H → X i p H') : tSeq (tFor wi g ts) tz D σ H :=
  s_forE (D := { D with nx := tz D }) p0 h sr l0 x0 tg hs hd xs

/-! ### the source of draws -/
structure DrawA where
  d : Addr
  l : Addr
  c : Addr
  cells : List Int
  ne : d ≠ l
def drawKv (A : DrawA) (r t : Int) : List (Key × V) := [(.inr "large", .ref A.l), (.inr "rest", .int r), (.inr "cells", .ref A.c), (.inr "turn", .int t)]
structure DrawS where
  large : List Int
  rest : Int
  turn : Int
def drawAt (A : DrawA) (S : DrawS) (H : Hp) : Prop := H A.d = some (.dK (drawKv A S.rest S.turn)) ∧ H A.l = some (.lst (S.large.map .int))
def DW (K : PySem.W.Frag) (A : DrawA) : Wd where
  ws := [A.d, A.l]
  P := fun H => ∃ S, drawAt A S H
  sup := fun H H' k ⟨S, h1, h2⟩ => ⟨S, k _ (by simp) _ h1, k _ (by simp) _ h2⟩
  C := fun H => Dp K H (.ref A.c) (.list (A.cells.map .int))
  mono := fun H H' s h => dp_mono s _ _ h
theorem str_lr : ¬ (("large" : Str) = "rest") := by decide +kernel
theorem str_lc : ¬ (("large" : Str) = "cells") := by decide +kernel
theorem str_lt : ¬ (("large" : Str) = "turn") := by decide +kernel
theorem str_rc : ¬ (("rest" : Str) = "cells") := by decide +kernel
theorem str_rt : ¬ (("rest" : Str) = "turn") := by decide +kernel
theorem str_ct : ¬ (("cells" : Str) = "turn") := by decide +kernel
theorem get_large (A : DrawA) (r t : Int) : valV (drawKv A r t) (.inr "large") = some (.ref A.l) := by simp [valV, drawKv]
theorem get_rest (A : DrawA) (r t : Int) : valV (drawKv A r t) (.inr "rest") = some (.int r) := by simp [valV, drawKv, str_lr, List.find?_cons]
theorem get_cells (A : DrawA) (r t : Int) : valV (drawKv A r t) (.inr "cells") = some (.ref A.c) := by simp [valV, drawKv, str_lc, str_rc, List.find?_cons]
theorem get_turn (A : DrawA) (r t : Int) : valV (drawKv A r t) (.inr "turn") = some (.int t) := by simp [valV, drawKv, str_lt, str_rt, str_ct, List.find?_cons]
theorem put_rest (A : DrawA) (r t z : Int) : putK (drawKv A r t) (.inr "rest") (.int z) = drawKv A z t := by simp [putK, drawKv, str_lr, Ne.symm str_rc, Ne.symm str_rt]
theorem put_turn (A : DrawA) (r t z : Int) : putK (drawKv A r t) (.inr "turn") (.int z) = drawKv A r z := by simp [putK, drawKv, str_lt, str_rt, str_ct]
variable {A : DrawA}
theorem At.draw (h : At K (DW K A) ms B ρ σ H) {a : Addr} {o : HO} (ha : a ∈ [A.d, A.l]) (p : ∃ S, drawAt A S (upd H a o)) : At K (DW K A) ms B ρ σ (upd H a o) := by
  have hm : a ∈ ms := h.sub a ha
  refine ⟨h.sub, h.live.upd, h.env.mono (cut_put (.inl hm)), p, fun b u n e => ?_, h.st.trans (cut_put (.inl hm)), dp_mono (cut_put (.inl hm)) _ _ h.c⟩
  rw [upd_ne (fun q => by subst q; exact n ha)]
  exact h.xw b u n e
theorem xw_draw {a : Addr} {o : HO} (ha : a ∈ [A.d, A.l]) : XW (DW K A).ws H (upd H a o) := fun b u n e => by
  rw [upd_ne (fun q => by subst q; exact n ha)]
  exact e
theorem en_rest (h : ρ[i]? = some (.raw (.ref A.d))) : En K (DW K A) (tDGet (tVar i) (tC (.str "rest"))) ρ (IsI fun _ => True) := fun ms B σ H a Q q => by
  obtain ⟨v, e, o⟩ := a.env.get h (by intro q; cases q)
  obtain rfl : v = .ref A.d := o
  obtain ⟨S, e1, e2⟩ := a.p
  have g := DGet.k (k := Sum.inr "rest") e1
  rw [get_rest] at g
  exact ⟨_, e, A.d, .int S.rest, rfl, g, q (.dat (.int S.rest)) _ H ⟨_, rfl, trivial⟩ a (.refl H) (.int _)⟩
theorem en_turn (h : ρ[i]? = some (.raw (.ref A.d))) : En K (DW K A) (tDGet (tVar i) (tC (.str "turn"))) ρ (IsI fun _ => True) := fun ms B σ H a Q q => by
  obtain ⟨v, e, o⟩ := a.env.get h (by intro q; cases q)
  obtain rfl : v = .ref A.d := o
  obtain ⟨S, e1, e2⟩ := a.p
  have g := DGet.k (k := Sum.inr "turn") e1
  rw [get_turn] at g
  exact ⟨_, e, A.d, .int S.turn, rfl, g, q (.dat (.int S.turn)) _ H ⟨_, rfl, trivial⟩ a (.refl H) (.int _)⟩
theorem ev_cells (h : ρ[i]? = some (.raw (.ref A.d))) : Evd K (DW K A) (tDGet (tVar i) (tC (.str "cells"))) ρ (.list (A.cells.map .int)) := fun ms B σ H a Q q => by
  obtain ⟨v, e, o⟩ := a.env.get h (by intro q; cases q)
  obtain rfl : v = .ref A.d := o
  obtain ⟨S, e1, e2⟩ := a.p
  have g := DGet.k (k := Sum.inr "cells") e1
  rw [get_cells] at g
  exact ⟨_, e, A.d, .ref A.c, rfl, g, q _ H a (.refl H) a.c⟩
theorem q_putRest (a : At K (DW K A) ms B ρ σ H) (h : ρ[i]? = some (.raw (.ref A.d))) (e : En K (DW K A) tv ρ (IsI fun _ => True)) (k : ∀ H', At K (DW K A) ms B ρ σ H' → D.nx σ H') : sDPut (tVar i) (tC (.str "rest")) tv D σ H := e ms B σ H a _ fun s v H1 φ h1 x1 o1 => by
  obtain ⟨n, rfl, _⟩ := φ
  cases o1
  obtain ⟨v, ev, o⟩ := h1.env.get h (by intro q; cases q)
  obtain rfl : v = .ref A.d := o
  obtain ⟨S, e1, e2⟩ := h1.p
  have g := DPut.k (k := Sum.inr "rest") (v := .int n) e1 (by show 4 < sizeLine; decide)
  rw [put_rest] at g
  exact ⟨_, ev, A.d, _, rfl, g, k _ (h1.draw (by simp) ⟨⟨S.large, n, S.turn⟩, upd_same, by rw [upd_ne (Ne.symm A.ne)]; exact e2⟩)⟩
theorem q_putTurn (a : At K (DW K A) ms B ρ σ H) (h : ρ[i]? = some (.raw (.ref A.d))) (e : En K (DW K A) tv ρ (IsI fun _ => True)) (k : ∀ H', At K (DW K A) ms B ρ σ H' → D.nx σ H') : sDPut (tVar i) (tC (.str "turn")) tv D σ H := e ms B σ H a _ fun s v H1 φ h1 x1 o1 => by
  obtain ⟨n, rfl, _⟩ := φ
  cases o1
  obtain ⟨v, ev, o⟩ := h1.env.get h (by intro q; cases q)
  obtain rfl : v = .ref A.d := o
  obtain ⟨S, e1, e2⟩ := h1.p
  have g := DPut.k (k := Sum.inr "turn") (v := .int n) e1 (by show 4 < sizeLine; decide)
  rw [put_turn] at g
  exact ⟨_, ev, A.d, _, rfl, g, k _ (h1.draw (by simp) ⟨⟨S.large, S.rest, n⟩, upd_same, by rw [upd_ne (Ne.symm A.ne)]; exact e2⟩)⟩
/-- draw["large"].pop(0) if draw["large"] != [] else .. -/
theorem en_next (h : ρ[i]? = some (.raw (.ref A.d))) (hm : En K (DW K A) tm ρ (IsI fun _ => True)) :
    En K (DW K A) (tIf (tTest (tOp (rNeD K) (tDGet (tVar i) (tC (.str "large"))) (tLst tNil))) (tBM K "list" rPopAt (tDGet (tVar i) (tC (.str "large"))) (tCons (tC (.int 0)) tNil)) tm) ρ (IsI fun _ => True) := fun ms B σ H a Q q => by
  obtain ⟨v, e, o⟩ := a.env.get h (by intro q; cases q)
  obtain rfl : v = .ref A.d := o
  obtain ⟨S, e1, e2⟩ := a.p
  have g := DGet.k (k := Sum.inr "large") e1
  rw [get_large] at g
  refine ⟨_, e, A.d, .ref A.l, rfl, g, Nat.zero_le _, fun p hp => ?_⟩
  have e2' := same_put (o := .lst []) hp _ _ e2
  refine ⟨.list (S.large.map .int), .list [], .lst (SqL.of e2') (dpa_of_ints _ _ _), .lst (SqL.of upd_same) .nil, (shp_ints _).shaped (by decide), (shp_list (n := 0) (by simp)).shaped (by decide), _, rfl, ?_⟩
  have a1 := a.same (same_put (o := .lst []) hp)
  have x1 : XW (DW K A).ws H (upd H p (.lst [])) := .of_same (same_put hp)
  obtain ⟨lg, r, tn⟩ := S
  cases lg with
  | nil => exact iteF (hm ms B σ _ a1 Q fun s v H2 φ h2 x2 o2 => q s v H2 φ h2 (x1.trans x2) o2)
  | cons n lg =>
    refine iteT ?_
    obtain ⟨S1, f1, f2⟩ := a1.p
    have e1' := same_put (o := .lst []) hp _ _ e1
    have g1 := DGet.k (k := Sum.inr "large") e1'
    rw [get_large] at g1
    refine ⟨_, e, A.d, .ref A.l, rfl, g1, .inl ⟨rfl, _, .inl (.inl e2')⟩, A.l, _, 0, 0, .int n, rfl, rfl, e2', by decide, by decide, ?_, rfl, ?_⟩
    · show seqIndex? 0 _ = some 0
      unfold seqIndex?
      simp
    · refine q (.dat (.int n)) _ _ ⟨n, rfl, trivial⟩ (a1.draw (by simp) ⟨⟨lg, r, tn⟩, ?_, ?_⟩) (x1.trans (xw_draw (by simp))) (.int n)
      · rw [upd_ne A.ne]; exact e1'
      · rw [upd_same]; rfl
/-! defs that draw -/
def spN (K : PySem.W.Frag) (Pre : List PyData → Prop) (Φ : List PyData → PyData → Prop) : Sp := fun vs H Q _ => ∃ (A : DrawA) (ms : List Addr) (ds : List PyData) (ws : List V), vs = .ref A.d :: ws ∧ (∀ a ∈ (DW K A).ws, a ∈ ms) ∧ Live ms H ∧ (DW K A).P H ∧ (DW K A).C (cut ms H) ∧ DpAll K (cut ms H) ws ds ∧ Pre ds ∧
  ∀ d v H', Φ ds d → XW (DW K A).ws H H' → Live ms H' → (DW K A).P H' → Dp K (cut ms H') v d → Q v H'
theorem en_callN {Pre : List PyData → Prop} {Φ : List PyData → PyData → Prop} {Ψ : List PyData → Prop} {ta : TA} {E : XK} (h : ρ[i]? = some (.raw (.ref A.d))) (ha : EnD K (DW K A) ta ρ Ψ) (hp : ∀ ds, Ψ ds → Pre ds) : En K (DW K A) (tCall (spN K Pre Φ) [] E (tCons (tVar i) ta)) ρ (IsD fun d => ∃ ds, Ψ ds ∧ Φ ds d) := fun ms B σ H a Q q => by
  obtain ⟨v, e, o⟩ := a.env.get h (by intro q; cases q)
  obtain rfl : v = .ref A.d := o
  refine ⟨_, e, ha ms B σ H a _ fun ds ws H1 ψ h1 x1 o1 => ?_⟩
  show spN K Pre Φ ((.ref A.d :: ws) ++ []) H1 Q E
  rw [List.append_nil]
  exact ⟨A, ms, ds, ws, rfl, h1.sub, h1.live, h1.p, h1.c, o1, hp ds ψ, fun d v H2 φ x2 l2 p2 o2 => q (.dat d) v H2 ⟨d, rfl, ds, ψ, φ⟩ (h1.go x2 l2 p2) (x1.trans x2) o2⟩
def RunsN (K : PySem.W.Frag) (t : TS) (ρ : DrawA → List Sl) (Φ : PyData → Prop) : Prop :=
  ∀ (A : DrawA) (ms : List Addr) (σ : L2.St) (H : Hp) (Q : VK), At K (DW K A) ms ⟨H, H⟩ (ρ A) σ H → (∀ d v H', Φ d → At K (DW K A) ms ⟨H, H⟩ [] [] H' → Dp K (cut ms H') v d → Q v H') → t { nx := fun _ H' => Q .non H', rt := Q } σ H
theorem env_argsN {ds : List PyData} {ws : List V} {n : Nat} {v : V} (h : DpAll K H ws ds) : EnvOk K H (.raw v :: (ds.map .dat ++ List.replicate n .emp)) (some v :: (ws.map some ++ List.replicate n none)) :=
  .cons (show SlO K H (.raw v) (some v) from rfl) (EnvOk.app (env_args h) (EnvOk.emp _))
section
variable {P : Program} {w : World} {mg : Str → Option Value} {base : Heap}
theorem drawOk {x qual : Str} {st : Stmt} {f : Addr} {fd : FuncData} {N ps : List Str} {k : Nat} {Pre : List PyData → Prop} {Φ : List PyData → PyData → Prop} (F : Fun K x qual st f fd) (S : FnScope N ps (defScope st)) (hG : ∀ ds, Pre ds → ds.length + 1 = ps.length)
    (hb : ∀ (cdv : Value) (A : Around) (outer : List Env) (s : Shared) (H : Hp) (E : XK), Room k (A.deeper (envOfC qual (defScope st) s.heap.objs.size f cdv)) →
      ∃ t, PSs (cxOf CX0 P w K mg base N qual (defScope st) f cdv A outer s H E).nox (defBody st) t ∧ ∀ ds, Pre ds → RunsN K t (fun A => .raw (.ref A.d) :: (ds.map .dat ++ List.replicate (N.length - (ds.length + 1)) .emp)) (Φ ds)) : FnOk P w K mg base CX0 (k + 1) f fd ps (spN K Pre Φ) := by
  refine F.ok S (fun vs H Q E h => ?_) fun cdv A outer s H vs Q E hr h => ?_
  · obtain ⟨A, ms, ds, ws, rfl, _, _, _, _, o, p, _⟩ := h
    rw [List.length_cons, dpa_len o, hG ds p]
  · obtain ⟨A2, ms, ds, ws, rfl, sub, l, p, c, o, pre, q⟩ := h
    obtain ⟨t, ht, hr⟩ := hb cdv A outer s H E hr
    refine ⟨t, ht, hr ds pre A2 ms _ H Q ⟨sub, l, ?_, p, .refl H, Same.refl _, c⟩ fun d v H' φ a od => q d v H' φ a.xw a.live a.p od⟩
    have e : L2.start N (.ref A2.d :: ws) = some (.ref A2.d) :: (ws.map some ++ List.replicate (N.length - (ds.length + 1)) none) := by
      unfold L2.start
      rw [List.map_cons, List.length_cons, dpa_len o]
      rfl
    rw [e]
    exact env_argsN o
end
end
end Fw

/-! The frame, 8: lists of one's own that are read while they grow; walks of several lengths. -/
namespace Fw
open PySem L2
/-! ### data without lists -/
mutual
def noList : PyData → Bool
  | .list _ => false
  | .tuple ds => noLists ds
  | .dict _ => false
  | _ => true
def noLists : List PyData → Bool
  | [] => true
  | d :: ds => noList d && noLists ds
end
theorem noLists_of : ∀ {ds : List PyData}, (∀ d ∈ ds, noList d = true) → noLists ds = true
  | [], _ => by simp [noLists]
  | d :: ds, h => by
    simp only [noLists, h d List.mem_cons_self, noLists_of fun x hx => h x (List.mem_cons_of_mem _ hx), Bool.and_self]
section
variable {K : PySem.W.Frag} {ms : List Addr} {H : Hp} {l : Addr} {xs : List V}
theorem sqt_nolist {a : Addr} {ys : List V} (hl : H l = some (.lst xs)) (h : SqT K (cut ms H) a ys) : SqT K (cut (l :: ms) H) a ys := by
  have key : ∀ u, (cut ms H) a = some u → (∀ zs, u ≠ .lst zs) → (cut (l :: ms) H) a = some u := fun u e n => by
    have nm : a ∉ ms := fun z => by rw [cut_in z] at e; cases e
    rw [cut_out nm] at e
    have na : a ≠ l := fun z => by
      subst z
      rw [hl] at e
      cases e
      exact n xs rfl
    rw [cut_out (by simp [na, nm])]
    exact e
  rcases h with (h | ⟨o, h⟩) | h
  · exact .inl (.inl (key _ h fun zs q => by cases q))
  · exact .inl (.inr ⟨o, key _ h fun zs q => by cases q⟩)
  · exact .inr h
mutual
theorem dp_nolist (hl : H l = some (.lst xs)) : ∀ (d : PyData) (v : V), noList d = true → Dp K (cut ms H) v d → Dp K (cut (l :: ms) H) v d
  | .none, _, _, h => by cases h; exact .non
  | .bool b, _, _, h => by cases h; exact .bl b
  | .int i, _, _, h => by cases h; exact .int i
  | .str x, _, _, h => by cases h; exact .str x
  | .list ds, _, n, _ => by simp [noList] at n
  | .tuple ds, _, n, h => by
    cases h with
    | tup hs ha => exact .tup (sqt_nolist hl hs) (dpa_nolist hl ds _ (by simpa [noList] using n) ha)
  | .dict _, _, _, h => by cases h
theorem dpa_nolist (hl : H l = some (.lst xs)) : ∀ (ds : List PyData) (vs : List V), noLists ds = true → DpAll K (cut ms H) vs ds → DpAll K (cut (l :: ms) H) vs ds
  | [], _, _, h => by cases h; exact .nil
  | d :: ds, _, n, h => by
    simp only [noLists, Bool.and_eq_true] at n
    cases h with
    | cons h1 h2 => exact .cons (dp_nolist hl d _ n.1 h1) (dpa_nolist hl ds _ n.2 h2)
end
end
section
variable {K : PySem.W.Frag} {W : Wd} {ms : List Addr} {B : Bs} {H H' : Hp} {ρ ρ' ρ1 : List Sl} {σ σ' : L2.St} {d : PyData} {ds : List PyData} {s s1 s2 : Sl} {v : V} {vs : List V} {l : Addr} {i : Nat}
  {ta tb tc te tx tl ti tv tm : TE} {tt t u : TT} {wi : TI} {g : TG} {D : Ends} {ts ts' tz : TS} {Φ Φ1 Φ2 : Sl → Prop}
def Bs.off (B : Bs) (l : Addr) : Bs := ⟨B.h0, fun a => if a = l then none else B.hb a⟩
theorem cut_off : cut (l :: ms) (B.off l).hb = cut (l :: ms) B.hb := by
  funext a
  by_cases q : a ∈ l :: ms
  · rw [cut_in q, cut_in q]
  · rw [cut_out q, cut_out q]
    have n : a ≠ l := fun z => q (by rw [z]; exact List.mem_cons_self)
    show (if a = l then none else B.hb a) = _
    rw [if_neg n]
theorem At.off (h : At K W (l :: ms) B ρ σ H) : At K W (l :: ms) (B.off l) ρ σ H := ⟨h.sub, h.live, h.env, h.p, h.xw, by rw [cut_off]; exact h.st, h.c⟩
/-- l.append(e), e may read l -/
theorem s_appL {Ψ : PyData → Prop} (h : At K W (l :: ms) B ρ σ H) (o : Own K W (l :: ms) B l ds H) (hm : l ∉ ms) (hr : ρ[i]? = some (.raw (.ref l))) (hz : ds.length < 100000)
    (e : En K W te (ρ.set i (.dat (.list ds))) (IsD fun d => noList d = true ∧ Ψ d)) (k : ∀ d H', Ψ d → At K W (l :: ms) B ρ σ H' → Own K W (l :: ms) B l (ds ++ [d]) H' → D.nx σ H') : tDrop (tBM K "list" rAppend (tVar i) (tCons te tNil)) D σ H := by
  obtain ⟨w, ew, ow⟩ := h.env.get hr (by intro q; cases q)
  obtain rfl : w = .ref l := ow
  obtain ⟨vs, el, dd⟩ := o.val
  refine ⟨_, ew, .inl ⟨rfl, _, .inl (.inl el)⟩, e ms (B.off l) σ H (h.off.lend ⟨o.mem, o.nws, o.h0, o.val⟩ hm (by show (if l = l then none else B.hb l) = none; rw [if_pos rfl]) hr) _ fun s v H1 φ h1 x1 o1 => ?_⟩
  obtain ⟨d, rfl, nl, ψ⟩ := φ
  have e1 := x1 l _ o.nws el
  refine ⟨l, vs, v, rfl, rfl, e1, Nat.lt_of_lt_of_le (by rw [dpa_len dd]; exact hz) (show 100000 ≤ sizeLine by decide), ?_⟩
  have g1 : At K W (l :: ms) B ρ σ H1 := h.go x1 (fun a z => (List.mem_cons.mp z).elim (fun q => by rw [q]; exact ⟨_, e1⟩) (h1.live a)) h1.p
  have d1 := dpa_mono (x1.cut h.sub) _ _ dd
  exact k d _ ψ (g1.write o.mem o.nws o.h0) ⟨o.mem, o.nws, o.h0, vs ++ [v], upd_same, dpa_mono (cut_put (.inl o.mem)) _ _ (dpa_snoc d1 (dp_nolist e1 d v nl o1))⟩
/-- a, b = e, a new list -/
theorem q_parNF {j k : Nat} {Ψ : List PyData → Prop} (h : At K W ms B ρ σ H) (e1 : En K W ta ρ (fun s => Φ1 s ∧ ∃ n, s = .dat (.int n))) (e2 : EvF K W tb ρ Ψ)
    (kk : ∀ s1 l ds σ' H', Φ1 s1 → Ψ ds → At K W (l :: ms) B ((ρ.set j s1).set k (.raw (.ref l))) σ' H' → Own K W (l :: ms) B l ds H' → l ∉ ms → B.hb l = none → tz D σ' H') : tSeq (tPar j k (tCons ta (tCons tb tNil))) tz D σ H :=
  e1 ms B σ H h _ fun s1 v1 H1 φ1 h1 x1 o1 => e2 ms B σ H1 h1 _ fun ds l vs H2 ψ h2 x2 hl e2 o2 => by
    obtain ⟨φ1, n, rfl⟩ := φ1
    cases o1
    obtain ⟨l0, lm, lw⟩ := h1.fresh hl
    exact ⟨_, _, rfl, kk _ l ds _ _ φ1 ψ (((h1.adopt x2 h2 hl e2).set (s := .dat (.int n)) (.int n) j).set (s := .raw (.ref l)) rfl k) ⟨List.mem_cons_self, lw, l0, vs, e2, o2⟩ lm (h1.freshB hl)⟩
/-! walks of one of several lists -/
def SrcN (K : PySem.W.Frag) (W : Wd) (wi : TI) (ρ : List Sl) (Ψ : List PyData → Prop) : Prop :=
  ∀ (ms : List Addr) (B : Bs) (σ : L2.St) (H : Hp), At K W ms B ρ σ H → ∀ R : It → Hp → Prop, (∀ ds J H', Ψ ds → At K W ms B ρ σ H' → XW W.ws H H' → Stream K J ms H' ds → R J H') → wi σ H R
theorem srcN_of {Ψ : List PyData → Prop} (h : Src K W wi ρ ds) (ψ : Ψ ds) : SrcN K W wi ρ Ψ := fun ms B σ H a R q => h ms B σ H a R fun J H' => q ds J H' ψ
theorem srcN_list {Ψ : List PyData → Prop} (h : En K W tl ρ (IsD fun d => ∃ ds, d = .list ds ∧ Ψ ds)) : SrcN K W (iList K tl) ρ Ψ := fun ms B σ H a R q => h ms B σ H a _ fun s v H1 φ h1 x1 o1 => by
  obtain ⟨d, rfl, ds, rfl, ψ⟩ := φ
  cases o1 with
  | @lst p vs _ hs ha =>
    refine ⟨p, rfl, ⟨vs, sql_mono cut_le hs⟩, q ds _ H1 ψ h1 x1 ⟨fun H => SqL K H p vs, YAt vs, ?_, fun ms' H2 s => ⟨sql_mono (s.trans cut_le) hs, fun i x H3 l y => ?_⟩⟩⟩
    · rw [← dpa_len ha]; exact walk_list
    · obtain ⟨rfl, e⟩ := y
      refine ⟨Same.refl _, fun d hd => ?_⟩
      obtain ⟨d', e', o⟩ := dpa_get ha e
      rw [hd] at e'
      cases e'
      exact dp_mono s _ _ o
def rangeD (n : Int) : List PyData := (List.range n.toNat).map fun i => PyData.int (i : Nat)
theorem srcN_range {Ψ : Int → Prop} (h : En K W te ρ (IsI Ψ)) (hn : ∀ n, Ψ n → -1000000000 ≤ n ∧ n ≤ 1000000000) : SrcN K W (iRng1 (tCons te tNil)) ρ (fun ds => ∃ n, Ψ n ∧ ds = rangeD n) := fun ms B σ H a R q => h ms B σ H a _ fun s v H1 φ h1 x1 o1 => by
  obtain ⟨n, rfl, ψ⟩ := φ
  cases o1
  have hb := hn n ψ
  refine ⟨n, rfl, by omega, by omega, q (rangeD n) _ H1 ⟨n, ψ, rfl⟩ h1 x1 ⟨fun _ => True, YFn fun i => .int (0 + i), ?_, fun ms' H2 s => ⟨trivial, fun i x H3 l y => ?_⟩⟩⟩
  · unfold rangeD; rw [List.length_map, List.length_range]; exact walk_range
  · obtain ⟨rfl, rfl⟩ := y
    refine ⟨Same.refl _, fun d hd => ?_⟩
    unfold rangeD at hd
    rw [List.getElem?_map] at hd
    cases e : (List.range n.toNat)[i]? with
    | none => rw [e] at hd; cases hd
    | some j =>
      rw [e] at hd
      obtain ⟨hl, e'⟩ := List.getElem?_eq_some_iff.mp e
      rw [List.getElem_range] at e'
      subst e'
      cases hd
      show Dp K _ (V.int (0 + _)) _
      rw [Int.zero_add]
      exact .int _
theorem rangeD_get {n : Int} {i : Nat} {d : PyData} (h : (rangeD n)[i]? = some d) : d = .int (i : Nat) ∧ (i : Int) < n := by
  unfold rangeD at h
  rw [List.getElem?_map] at h
  cases e : (List.range n.toNat)[i]? with
  | none => rw [e] at h; cases h
  | some j =>
    rw [e] at h
    obtain ⟨hl, e'⟩ := List.getElem?_eq_some_iff.mp e
    rw [List.getElem_range] at e'
    subst e'
    cases h
    rw [List.length_range] at hl
    exact ⟨rfl, by omega⟩
theorem rangeD_len (n : Int) : (rangeD n).length = n.toNat := by unfold rangeD; rw [List.length_map, List.length_range]
theorem s_forN {α : Type} {Ψ : List PyData → Prop} {R S : Nat → α → List Sl} {X : Nat → α → Hp → Prop} (p0 : α) (h : At K W ms B ρ σ H) (sr : SrcN K W wi ρ Ψ) (l0 : Le (R 0 p0) ρ) (x0 : ∀ H1, At K W ms B ρ σ H1 → XW W.ws H H1 → X 0 p0 H1)
    (tg : ∀ ds, Ψ ds → ∀ i p d, ds[i]? = some d → ∃ js, Tg K W g js d (R i p) (S i p))
    (hs : ∀ ds, Ψ ds → ∀ Hb i p d σ' H', ds[i]? = some d → At K W ms ⟨B.h0, Hb⟩ (S i p) σ' H' → X i p H' → ts { D with nx := fun σ H => ∃ p', At K W ms ⟨B.h0, Hb⟩ (R (i + 1) p') σ H ∧ X (i + 1) p' H, ct := fun σ H => ∃ p', At K W ms ⟨B.h0, Hb⟩ (R (i + 1) p') σ H ∧ X (i + 1) p' H, bk := D.nx } σ' H')
    (hd : ∀ ds, Ψ ds → ∀ p σ' H', At K W ms B (R ds.length p) σ' H' → X ds.length p H' → D.nx σ' H') (xs : ∀ i p H H', Same H H' → Live ms H → X i p H → X i p H') : tFor wi g ts D σ H := sr ms B σ H h _ fun ds J H1 ψ h1 x1 stm => by
  obtain ⟨G, Y, wk, st⟩ := stm
  refine for_it wk (fun i σ H => ∃ p, At K W ms ⟨B.h0, H1⟩ (R i p) σ H ∧ X i p H) ⟨p0, h1.re.le l0, x0 H1 h1 x1⟩ (fun i σ H _ ⟨p, a, _⟩ => (st ms H a.st).1) (fun i x σ H H' hi ⟨p, a, xx⟩ y => ?_) fun σ H ⟨p, a, xx⟩ => hd ds ψ p σ H (h1.un a) xx
  obtain ⟨s, hdt⟩ := (st ms H a.st).2 i x H' a.live y
  have hx : ds[i]? = some ds[i] := List.getElem?_eq_getElem hi
  obtain ⟨js, tj⟩ := tg ds ψ i p _ hx
  exact tj ms _ σ H' x (a.same s) (hdt _ hx) _ fun σ2 h2 _ => hs ds ψ H1 i p _ σ2 H' hx h2 (xs i p H H' s a.live xx)
theorem end_all0 {P : PyData → Prop} : EnD K W tNil ρ (fun ds => ds.length = 0 ∧ ∀ d ∈ ds, P d) := end_of ed_nil ⟨rfl, by simp⟩
theorem end_all1 {P : PyData → Prop} {tr : TA} {n : Nat} (h : En K W ta ρ (IsD P)) (hr : EnD K W tr ρ (fun ds => ds.length = n ∧ ∀ d ∈ ds, P d)) : EnD K W (tCons ta tr) ρ (fun ds => ds.length = n + 1 ∧ ∀ d ∈ ds, P d) :=
  (end_cons h hr).imp fun ds ⟨d, es, e, p, l, q⟩ => by
    subst e
    refine ⟨by rw [List.length_cons, l], fun x hx => ?_⟩
    rcases List.mem_cons.mp hx with e | e
    · rw [e]; exact p
    · exact q x e
theorem end_one {P : PyData → Prop} (h : En K W ta ρ (IsD P)) : EnD K W (tCons ta tNil) ρ (fun ds => ∃ d, ds = [d] ∧ P d) := (end_cons h end_nil).imp fun ds ⟨d, es, e, p, q⟩ => ⟨d, by rw [e, q], p⟩
theorem isd_of {P : PyData → Prop} {Ψ : Int → Prop} (h : En K W te ρ (IsI Ψ)) (i : ∀ n, Ψ n → P (.int n)) : En K W te ρ (IsD P) := h.imp fun s ⟨n, e, p⟩ => ⟨.int n, e, i n p⟩
theorem isi_of {P : PyData → Prop} {Ψ : Int → Prop} (h : En K W te ρ (IsD P)) (i : ∀ d, P d → ∃ n, d = .int n ∧ Ψ n) : En K W te ρ (IsI Ψ) := h.imp fun s ⟨d, e, p⟩ => by
  obtain ⟨n, rfl, q⟩ := i d p
  exact ⟨n, e, q⟩
theorem isd_evd {P : PyData → Prop} (h : Evd K W te ρ d) (p : P d) : En K W te ρ (IsD P) := en_of_ev h ⟨d, rfl, p⟩
theorem En.isd {P P' : PyData → Prop} (h : En K W te ρ (IsD P)) (i : ∀ d, P d → P' d) : En K W te ρ (IsD P') := h.imp fun s ⟨d, e, p⟩ => ⟨d, e, i d p⟩
theorem en_eqS {x y : Str} (ha : Evd K W ta ρ (.str x)) (hb : Evd K W tb ρ (.str y)) : EnT K W (tTest (tOp rEq ta tb)) ρ (fun b => b = decide (x = y)) := ent_of (et_test (ev_eqS ha hb)) rfl
/-- an item of a list by a drawn place -/
theorem en_ixL {Ψ : Int → Prop} (ha : Evd K W ta ρ (.list ds)) (hb : En K W tb ρ (IsI Ψ)) (h : ∀ n, Ψ n → 0 ≤ n ∧ n < (ds.length : Int)) : En K W (tOp (rIxL K) ta tb) ρ (IsD fun d => d ∈ ds) :=
  en_op (Φ1 := (· = .dat (.list ds))) (Φ2 := IsI Ψ) (en_of_ev ha rfl) hb fun s1 s2 e1 ⟨n, e2, p⟩ => by
    subst e1 e2
    have hn := h n p
    have hl : n.toNat < ds.length := by omega
    have e : ds[n.toNat]? = some ds[n.toNat] := List.getElem?_eq_getElem hl
    have e3 : n = ((n.toNat : Nat) : Int) := by omega
    have e4 : atI ds n = some ds[n.toNat] := by
      generalize hm : n.toNat = m at *
      subst e3
      exact atI_nat e
    exact ⟨.dat ds[n.toNat], ⟨_, rfl, List.getElem_mem hl⟩, rs_ixL e4⟩
end
end Fw

/-! The frame, 9: what repr and == ask; tests that read one's own list. -/
namespace Fw
open PySem L2
open PyProof.Rows (envOfC)
/-- data that repr shows within B signs -/
structure Say (B n : Nat) (d : PyData) : Prop where
  shp : Shp n d
  sh : d.showable = true
  len : d.shown.length ≤ B
theorem say_int {i : Int} (h : i.natAbs < 2 ^ 200) : Say 62 0 (.int i) := by
  have h61 : i.natAbs < 10 ^ 61 := Nat.lt_of_lt_of_le h (by decide +kernel)
  refine ⟨shp_int i, ?_, ?_⟩
  · unfold PyData.showable
    refine decide_eq_true ?_
    by_cases z : i.natAbs = 0
    · rw [z]; decide
    · exact (Nat.log2_lt z).mpr (Nat.lt_of_lt_of_le h (Nat.pow_le_pow_right (by decide) (by decide)))
  · have e := int_text_length_le10 (k := 61) (by decide) h61
    show (Str.ofString (toString i)).length ≤ 62
    rw [ofString_length]
    exact e
theorem Say.mono {B C n m : Nat} {d : PyData} (h : Say B n d) (l : B ≤ C) (k : n ≤ m) : Say C m d := ⟨h.shp.mono k, h.sh, Nat.le_trans h.len l⟩
theorem say_all {B n : Nat} : ∀ {ds : List PyData}, (∀ d ∈ ds, Say B n d) → PyData.showableAll ds = true ∧ ((PyData.shownAll ds).map (·.length)).sum + 2 * (PyData.shownAll ds).length ≤ (B + 2) * ds.length
  | [], _ => ⟨rfl, by simp [PyData.shownAll]⟩
  | d :: ds, h => by
    have h1 := h d List.mem_cons_self
    have h2 := say_all (ds := ds) fun x hx => h x (List.mem_cons_of_mem _ hx)
    refine ⟨?_, ?_⟩
    · unfold PyData.showableAll
      rw [h1.sh, h2.1]
      rfl
    · unfold PyData.shownAll
      simp only [List.map_cons, List.sum_cons, List.length_cons]
      have := h1.len
      have := h2.2
      have hm : (B + 2) * (ds.length + 1) = (B + 2) * ds.length + (B + 2) := Nat.mul_succ _ _
      omega
theorem say_list {B n m : Nat} {ds : List PyData} (h : ∀ d ∈ ds, Say B n d) (hm : ds.length ≤ m) : Say ((B + 2) * m + 3) (n + 1) (.list ds) := by
  obtain ⟨h1, h2⟩ := say_all h
  refine ⟨shp_list fun d hd => (h d hd).shp, by unfold PyData.showable; exact h1, ?_⟩
  unfold PyData.shown
  have a := listText_len_le (PyData.shownAll ds)
  have b : (B + 2) * ds.length ≤ (B + 2) * m := Nat.mul_le_mul_left _ hm
  omega
theorem say_tuple {B n m : Nat} {ds : List PyData} (h : ∀ d ∈ ds, Say B n d) (hm : ds.length ≤ m) : Say ((B + 2) * m + 3) (n + 1) (.tuple ds) := by
  obtain ⟨h1, h2⟩ := say_all h
  refine ⟨shp_tuple fun d hd => (h d hd).shp, by unfold PyData.showable; exact h1, ?_⟩
  unfold PyData.shown
  have a := tupleText_len_le (PyData.shownAll ds)
  have b : (B + 2) * ds.length ≤ (B + 2) * m := Nat.mul_le_mul_left _ hm
  omega
section
variable {K : PySem.W.Frag} {W : Wd} {ms : List Addr} {B : Bs} {H H' : Hp} {ρ ρ' ρ1 : List Sl} {σ σ' : L2.St} {d e : PyData} {ds : List PyData} {s s1 s2 : Sl} {v : V} {vs : List V} {l : Addr} {i : Nat}
  {ta tb tc te tx tl ti tv tm : TE} {tt t u : TT} {wi : TI} {g : TG} {D : Ends} {ts ts' tz : TS} {Φ Φ1 Φ2 : Sl → Prop}
theorem ev_say {C n : Nat} (h : Evd K W te ρ d) (s : Say C n d) (hC : C ≤ 10000000) (hn : n ≤ 60) (hr : (∃ ds, d = .list ds) ∨ ∃ ds, d = .tuple ds) : Evd K W (tCB (rReprD K) (tCons te tNil)) ρ (.str d.shown) :=
  ev_repr h s.sh (PyData.hasDict_of_canLay d s.shp.1) (Nat.le_trans s.shp.2 hn) (Nat.le_trans s.len (Nat.le_trans hC (by decide))) hr
/-- repr(a) != repr(b), of one thing -/
theorem et_same {C n : Nat} (ha : Evd K W ta ρ d) (hb : Evd K W tb ρ d) (s : Say C n d) (hC : C ≤ 10000000) (hn : n ≤ 60) (hr : (∃ ds, d = .list ds) ∨ ∃ ds, d = .tuple ds) :
    EvT K W (tTest (tOp rNe (tCB (rReprD K) (tCons ta tNil)) (tCB (rReprD K) (tCons tb tNil)))) ρ false := et_eq (et_test (ev_neS (ev_say ha s hC hn hr) (ev_say hb s hC hn hr))) (by simp)
/-- a != b, of one thing -/
theorem et_like {n : Nat} (ha : Evd K W ta ρ d) (hb : Evd K W tb ρ d) (s : Shp n d) (hn : n ≤ 64) : EvT K W (tTest (tOp (rNeD K) ta tb)) ρ false := et_eq (et_test (ev_neD ha hb (s.shaped hn) (s.shaped hn))) (by rw [SeqAt.eqv_refl d s.1]; rfl)
/-- a test that reads one's own list, and fails -/
theorem q_unlessL (h : At K W (l :: ms) B ρ σ H) (o : Own K W (l :: ms) B l ds H) (hm : l ∉ ms) (hr : ρ[i]? = some (.raw (.ref l))) (e : EvT K W tt (ρ.set i (.dat (.list ds))) false) (k : ∀ H', At K W (l :: ms) B ρ σ H' → Own K W (l :: ms) B l ds H' → tz D σ H') : tSeq (tIfS tt ts tNext) tz D σ H := by
  refine e ms (B.off l) σ H (h.off.lend ⟨o.mem, o.nws, o.h0, o.val⟩ hm (by show (if l = l then none else B.hb l) = none; rw [if_pos rfl]) hr) _ fun H1 h1 x1 => ?_
  obtain ⟨vs, el, dd⟩ := o.val
  have e1 := x1 l _ o.nws el
  refine iteF (k H1 (h.go x1 (fun a z => (List.mem_cons.mp z).elim (fun q => by rw [q]; exact ⟨_, e1⟩) (h1.live a)) h1.p) (o.go h.sub x1))
theorem q_unless (h : At K W ms B ρ σ H) (e : EvT K W tt ρ false) (k : ∀ H', At K W ms B ρ σ H' → tz D σ H') : tSeq (tIfS tt ts tNext) tz D σ H := q_when (b := false) h e (fun q => nomatch q) fun _ H' h' _ => k H' h'
theorem s_unless (h : At K W ms B ρ σ H) (e : EvT K W tt ρ false) (k : ∀ H', At K W ms B ρ σ H' → D.nx σ H') : tIfS tt ts tNext D σ H := s_if (b := false) h e (fun q => nomatch q) fun _ H' h' _ => k H' h'
/-- the for over one of several lists; the slots of a turn know its item -/
theorem s_forD {α : Type} {Ψ : List PyData → Prop} {R : Nat → α → List Sl} {S : Nat → α → PyData → List Sl} {X : Nat → α → Hp → Prop} (p0 : α) (h : At K W ms B ρ σ H) (sr : SrcN K W wi ρ Ψ) (l0 : Le (R 0 p0) ρ) (x0 : ∀ H1, At K W ms B ρ σ H1 → XW W.ws H H1 → X 0 p0 H1)
    (tg : ∀ ds, Ψ ds → ∀ i p d, ds[i]? = some d → ∃ js, Tg K W g js d (R i p) (S i p d))
    (hs : ∀ ds, Ψ ds → ∀ Hb i p d σ' H', ds[i]? = some d → At K W ms ⟨B.h0, Hb⟩ (S i p d) σ' H' → X i p H' → ts { D with nx := fun σ H => ∃ p', At K W ms ⟨B.h0, Hb⟩ (R (i + 1) p') σ H ∧ X (i + 1) p' H, ct := fun σ H => ∃ p', At K W ms ⟨B.h0, Hb⟩ (R (i + 1) p') σ H ∧ X (i + 1) p' H, bk := D.nx } σ' H')
    (hd : ∀ ds, Ψ ds → ∀ p σ' H', At K W ms B (R ds.length p) σ' H' → X ds.length p H' → D.nx σ' H') (xs : ∀ i p H H', Same H H' → Live ms H → X i p H → X i p H') : tFor wi g ts D σ H := sr ms B σ H h _ fun ds J H1 ψ h1 x1 stm => by
  obtain ⟨G, Y, wk, st⟩ := stm
  refine for_it wk (fun i σ H => ∃ p, At K W ms ⟨B.h0, H1⟩ (R i p) σ H ∧ X i p H) ⟨p0, h1.re.le l0, x0 H1 h1 x1⟩ (fun i σ H _ ⟨p, a, _⟩ => (st ms H a.st).1) (fun i x σ H H' hi ⟨p, a, xx⟩ y => ?_) fun σ H ⟨p, a, xx⟩ => hd ds ψ p σ H (h1.un a) xx
  obtain ⟨s, hdt⟩ := (st ms H a.st).2 i x H' a.live y
  have hx : ds[i]? = some ds[i] := List.getElem?_eq_getElem hi
  obtain ⟨js, tj⟩ := tg ds ψ i p _ hx
  exact tj ms _ σ H' x (a.same s) (hdt _ hx) _ fun σ2 h2 _ => hs ds ψ H1 i p _ σ2 H' hx h2 (xs i p H H' s a.live xx)
theorem q_forD {α : Type} {Ψ : List PyData → Prop} {R : Nat → α → List Sl} {S : Nat → α → PyData → List Sl} {X : Nat → α → Hp → Prop} (p0 : α) (h : At K W ms B ρ σ H) (sr : SrcN K W wi ρ Ψ) (l0 : Le (R 0 p0) ρ) (x0 : ∀ H1, At K W ms B ρ σ H1 → XW W.ws H H1 → X 0 p0 H1)
    (tg : ∀ ds, Ψ ds → ∀ i p d, ds[i]? = some d → ∃ js, Tg K W g js d (R i p) (S i p d))
    (hs : ∀ ds, Ψ ds → ∀ Hb i p d σ' H', ds[i]? = some d → At K W ms ⟨B.h0, Hb⟩ (S i p d) σ' H' → X i p H' → ts { D with nx := fun σ H => ∃ p', At K W ms ⟨B.h0, Hb⟩ (R (i + 1) p') σ H ∧ X (i + 1) p' H, ct := fun σ H => ∃ p', At K W ms ⟨B.h0, Hb⟩ (R (i + 1) p') σ H ∧ X (i + 1) p' H, bk := tz D } σ' H')
    (hd : ∀ ds, Ψ ds → ∀ p σ' H', At K W ms B (R ds.length p) σ' H' → X ds.length p H' → tz D σ' H') (xs : ∀ i p H H', Same H H' → Live ms H → X i p H → X i p H') : tSeq (tFor wi g ts) tz D σ H :=
  s_forD (D := { D with nx := tz D }) p0 h sr l0 x0 tg hs hd xs
end
end Fw

/-! The frame, 10: the law is entered at the claim's own caller (whose row of guards is empty: repr of lists may be shown). -/
namespace Fw
open PySem L2 PySem.Spec
open PyProof.Rows
section
variable {P : Program} {w : World} {K : PySem.W.Frag} {mg mb : Str → Option Value} {base : Heap}
/-- what a law's body keeps, entered from the caller -/
structure LawAt (P : Program) (w : World) (K : PySem.W.Frag) (mg : Str → Option Value) (x : Str) (st : Stmt) (f : Addr) (fd : FuncData) (k n : Nat) (p : Str) : Prop where
  fn : Fun K x x st f fd
  nm : ∃ N : List Str, FnScope N [p] (defScope st) ∧ ∀ (base : Heap) (cdv : Value) (s : Shared) (H : Hp), Mod K mg base → Room k (callerA.deeper (envOfC x (defScope st) s.heap.objs.size f cdv)) →
    ∃ t, PSs (cxOf CX0 P w K mg base N x (defScope st) f cdv callerA [] s H E0).nox (defBody st) t ∧
      ∀ (a : Addr) (ns : List Int), ns.length ≤ n → At K W0 [] ⟨H, H⟩ (slots N.length [.list (ns.map .int)]) (L2.start N [.ref a]) H → t { nx := fun _ _ => False, rt := fun v _ => v = .bl true } (L2.start N [.ref a]) H
theorem law_runs {x p : Str} {st : Stmt} {f a : Addr} {fd : FuncData} {k n : Nat} {s : Shared} {H : Hp} {ns : List Int} (L : LawAt P w K mg x st f fd k n p) (hr : Room (k + 1) callerA)
    (e0 : Env0 P w K mg base callerA [] s H) (hb : BindsTo s fd ⟨[.ref a], []⟩ [(p, .ref a)]) (hl : ns.length ≤ n) (hS : SqL K H a (ns.map .int)) :
    codeAny (model P w) callerA (.call (.ref f) ⟨[.ref a], []⟩) (CR CX0 [] P w H s (fun v _ => v = .bl true) E0) s := by
  obtain ⟨cl, od, kV, doc, pm, an, cdv, ct, osl, rfl, found, hc⟩ := L.fn.ex
  obtain ⟨N, S, hN⟩ := L.nm
  have KX : K.In s.heap := e0.mod.kin.keeps fun b o q => (e0.bs b o q).1
  refine codeAny_call_function (hroom := hr.depth) (KX _ _ found) rfl S.co S.gen rfl (PySem.W.codeRec_of KX hc) (hb _ _ _ _ ?_)
  refine wpAny_newFunctionEnv_cells S.kind (fun y hy => ?_) fun env he s1 z => ?_
  · obtain rfl : y = (p, .ref a) := List.mem_singleton.mp hy
    rcases S.par p List.mem_cons_self with q | q
    · exact .inl q
    · exact .inr ⟨q, PySem.W.cellsFrom_some _ _ _ (.inl q)⟩
  subst he
  refine ⟨e0.mod.nolimit.keeps fun b o q => z.toInCall.keep b o ((e0.bs b o q).1), codeAny_func ?_⟩
  obtain ⟨t, ht, hq⟩ := hN base cdv s H e0.mod (hr.deeper _)
  have I : Inv (cxOf CX0 P w K mg base N x (defScope st) f cdv callerA [] s H E0) [] (L2.start N [.ref a]) H s1 := inv_start (us := [.ref a]) S hr.hd e0 rfl (.cons rfl .nil) z
  have h0 : At K W0 [] ⟨H, H⟩ (slots N.length [.list (ns.map .int)]) (L2.start N [.ref a]) H := at_start (fun b q => by cases q) (.cons (.lst (sql_mono (fun b o q => by rw [cut_out (by simp)]; exact q) hS) (dpa_of_ints _ _ _)) .nil)
  refine wpAny_mono (ht.nox.run [] s1 _ H _ I (hq a ns hl h0)) (fun fl s' g => ?_) fun e s' g => g
  cases fl with
  | ret u =>
    obtain ⟨v, σ', H', J, rv, q⟩ := g
    exact ⟨v, H', J.os, J.bare, J.base, J.hok, rv, q⟩
  | next => obtain ⟨_, _, _, q⟩ := g; exact q.elim
  | brk => obtain ⟨_, _, _, q⟩ := g; exact q.elim
  | cont => obtain ⟨_, _, _, q⟩ := g; exact q.elim
/-- the heap as the law sees it: nothing tracked but the script -/
theorem heap_of {s : Shared} {a : Addr} {vs : List Value} {ns : List Int} (KX : K.In s.heap) (ha : s.heap.get? a = some { cls := .type "list", data := .seq vs.toArray }) (hi : IntsAre vs ns) (hl : ns.length ≤ sizeLine) :
    ∃ H : Hp, (∀ b u, H b = some u → b = a ∧ ∃ o xs, u = .frz o (.lst xs)) ∧ SqL K H a (ns.map .int) ∧ HOk P w H s.heap ∧ (H a ≠ none → K.lookup a = none) := by
  have rv := vals_ints hi
  cases hk : K.lookup a with
  | some o =>
    have e := KX a o hk
    rw [ha] at e
    cases e
    exact ⟨fun _ => none, fun b u q => (nomatch (show (none : Option HO) = some u from q)), .inr ⟨_, vs.toArray, _, hk, rfl, rfl, rfl, by rw [List.size_toArray, hi.length]; exact hl, by simpa using rv⟩, fun b u q => (nomatch (show (none : Option HO) = some u from q)), fun q => absurd rfl q⟩
  | none =>
    have at_ : ∀ b u, (if b = a then some (HO.frz { cls := .type "list", data := .seq vs.toArray } (.lst (ns.map .int))) else none) = some u → b = a ∧ u = .frz { cls := .type "list", data := .seq vs.toArray } (.lst (ns.map .int)) := fun b u q => by
      split at q
      · cases q
        exact ⟨by assumption, rfl⟩
      · cases q
    refine ⟨fun b => if b = a then some (.frz { cls := .type "list", data := .seq vs.toArray } (.lst (ns.map .int))) else none, fun b u q => ?_, .inl (.inr ⟨{ cls := .type "list", data := .seq vs.toArray }, if_pos rfl⟩), fun b u q => ?_, fun _ => rfl⟩
    · obtain ⟨rfl, rfl⟩ := at_ b u q
      exact ⟨rfl, _, _, rfl⟩
    · obtain ⟨rfl, rfl⟩ := at_ b u q
      exact ⟨ha, by rw [List.length_map]; exact hl, vs, _, rv, ha⟩
theorem law_from {x p : Str} {st : Stmt} {f a : Addr} {fd : FuncData} {k n : Nat} {s : Shared} {vs : List Value} {ns : List Int} (KX : K.In s.heap) (g1 : s.heap.Ns mainGlobals mg) (g2 : s.heap.Ns builtinsNs mb) (g3 : ∀ y : Str, y ≠ "__name__" → mb y = bootBuiltins y)
    (g4 : s.heap.NoLimit) (g5 : s.gens = #[]) (ha : s.heap.get? a = some { cls := .type "list", data := .seq vs.toArray }) (hi : IntsAre vs ns) (hl : ns.length ≤ n) (hn : n ≤ sizeLine) (hr : Room (k + 1) callerA) (L : LawAt P w K mg x st f fd k n p)
    (hb : ∀ (s : Shared) (u : Value), BindsTo s fd ⟨[u], []⟩ [(p, u)]) :
    codeAny (model P w) callerA (.call (.ref f) ⟨[.ref a], []⟩) (fun r s' => r = .ok (.ret (.bool true)) ∧ OldK s.heap s'.heap ∧ s'.os = s.os ∧ AllBare s'.gens) s := by
  obtain ⟨H, only, hS, hok, hK⟩ := heap_of (P := P) (w := w) KX ha hi (Nat.le_trans hl hn)
  have free : ∀ {b : Addr} {o : Obj}, s.heap.get? b = some o → (b = a → False) → (hidT s.heap H).get? b = some o := fun {b o} e z => hidT_get e (by
    cases q : H b with
    | none => rfl
    | some u => exact (z (only b u q).1).elim)
  have spaces : ∀ {b : Addr} {m : Str → Option Value}, s.heap.Ns b m → (hidT s.heap H).Ns b m := fun {b m} ⟨o, es, ep, e, d, r⟩ => ⟨o, es, ep, free e (fun z => by
    subst z
    rw [ha] at e
    cases e
    exact nomatch (show Data.seq vs.toArray _ = Data.dict es ep from d)), d, r⟩
  have KH : K.In (hidT s.heap H) := fun b o e => hidT_get (KX b o e) (by
    cases q : H b with
    | none => rfl
    | some u =>
      obtain ⟨rfl, _⟩ := only b u q
      rw [hK (by rw [q]; simp)] at e
      cases e)
  have M : Mod K mg (hidT s.heap H) := ⟨KH, spaces g1, ⟨mb, spaces g2, g3⟩, let ⟨mc, h1, h2⟩ := g4; ⟨mc, spaces h1, h2⟩⟩
  have e0 : Env0 P w K mg (hidT s.heap H) callerA [] s H := ⟨rfl, M, fun b o e => of_hidT e, Nat.le_of_eq (hidT_size _ _), trivial, fun b z => (nomatch (show b ∈ ([] : List Addr) from z)), hok, .of_eq g5⟩
  refine codeAny_mono (law_runs L hr e0 (hb s (.ref a)) hl hS) fun r s' h => ?_
  match r, h with
  | .error e, h => exact h.elim
  | .ok .next, h => exact h.elim
  | .ok .brk, h => exact h.elim
  | .ok .cont, h => exact h.elim
  | .ok (.ret u), h =>
    obtain ⟨v, H2, os, bare, un, ok2, rel, q⟩ := h
    obtain rfl : v = .bl true := q
    obtain rfl : u = Value.bool true := rel
    refine ⟨rfl, OldK.of_keep fun b o e => ?_, os, bare⟩
    cases q : H b with
    | none => exact un.keep b o e q (fun z => nomatch (show b ∈ ([] : List Addr) from z)) (by simp)
    | some u2 =>
      obtain ⟨_, ob, xs, rfl⟩ := only b u2 q
      obtain ⟨e1, _⟩ := hok b _ q
      obtain ⟨e2, _⟩ := ok2 b _ (un.frzs b ob _ q)
      rw [e] at e1
      cases e1
      exact e2
end
/-- the end of a row whose law shows lists -/
theorem walk_at {l : PySem.W.OpenLaw} {q : Program} {n k : Nat} {loose : List Str} {XP : (Str → Option Value) → Heap → Prop} {YP : World → Heap → Prop} {d : DefRec} {K : Params → PySem.W.Frag} {st : Stmt} {p : Str} (hn : l.most = some n) (hn2 : n ≤ sizeLine) (hdf : d.params.defaults = []) (hr : Room (k + 1) callerA)
    (hY : ∀ (w : World) (h : Heap), YP w h → (K w.params).In h)
    (F : ∀ (w : World) (mg : Str → Option Value) (fa : Addr) (h : Heap), (K w.params).In h → h.Ns mainGlobals mg → XP mg h → mg d.name = some (.ref fa) →
      ∃ fd : FuncData, (∀ (s : Shared) (u : Value), BindsTo s fd ⟨[u], []⟩ [(p, u)]) ∧ LawAt l.prog w (K w.params) mg d.name st fa fd k n p) :
    PySem.W.WalkO q loose XP YP l.row.toRowW d [] (fun f vs => PySem.call f vs) := by
  refine Att.attach_call hn hdf fun w s0 s1 mg mb fa o pm cd doc a vs ns G Y _ _ _ hm ha hi hl hg => ?_
  have KX := hY w _ Y
  obtain ⟨fd, hb, L⟩ := F w mg fa _ KX G.T.g G.X hm
  exact law_from KX G.T.g G.T.b G.T.builtins G.T.nolimit hg ha hi hl hn2 hr L hb
end Fw

/-! The frame, 11: sorted pairs, places of items, slices, sums of lists, tuples that are compared. -/
namespace Fw
open PySem L2
open PyProof.Rows (envOfC)
def pairI (p : Int × Int) : PyData := .tuple [.int p.1, .int p.2]
/-- an item that is a tuple of two ints -/
def PairV (K : PySem.W.Frag) (H : Hp) (x : V) (p : Int × Int) : Prop := ∃ t, x = .ref t ∧ SqT K H t [.int p.1, .int p.2]
def lexLe (p q : Int × Int) : Prop := p.1 < q.1 ∨ (p.1 = q.1 ∧ p.2 ≤ q.2)
def rSortedPD (K : PySem.W.Frag) : List V → Hp → VK → Prop := fun vs H Q => ∃ (a : Addr) (xs : List V) (ps : List (Int × Int)), vs = [.ref a] ∧ SqL K H a xs ∧ Paired (PairV K H) xs ps ∧
  ∀ ys p qs, (∀ R : V → Int × Int → Prop, Paired R xs ps → Paired R ys qs) → qs.Perm ps → qs.Pairwise lexLe → H p = none → Q (.ref p) (upd H p (.lst ys))
theorem paired_mem {α β : Type} {Φ : α → β → Prop} : ∀ {xs : List α} {ps : List β}, Paired Φ xs ps → ∀ x ∈ xs, ∃ p ∈ ps, Φ x p
  | _, _, .nil, x, h => nomatch h
  | _, _, .cons a t, x, h => by
    rcases List.mem_cons.mp h with e | e
    · subst e; exact ⟨_, List.mem_cons_self, a⟩
    · obtain ⟨p, hp, q⟩ := paired_mem t x e
      exact ⟨p, List.mem_cons_of_mem _ hp, q⟩
theorem paired_of {α β : Type} {Φ : α → β → Prop} (k : α → β) : ∀ {xs : List α}, (∀ x ∈ xs, Φ x (k x)) → Paired Φ xs (xs.map k)
  | [], _ => .nil
  | x :: xs, h => .cons (h x List.mem_cons_self) (paired_of k fun y hy => h y (List.mem_cons_of_mem _ hy))
theorem paired_fun {α β : Type} {Φ : α → β → Prop} (k : α → β) (u : ∀ x p, Φ x p → p = k x) : ∀ {xs : List α} {ps : List β}, Paired Φ xs ps → ps = xs.map k
  | _, _, .nil => rfl
  | _, _, .cons a t => by rw [List.map_cons, ← u _ _ a, ← paired_fun k u t]
theorem paired_at {α β : Type} {Φ : α → β → Prop} {k : α → β} : ∀ {xs : List α}, Paired Φ xs (xs.map k) → ∀ x ∈ xs, Φ x (k x)
  | [], _, x, h => nomatch h
  | y :: xs, t, x, h => by
    cases t with
    | cons a t =>
      rcases List.mem_cons.mp h with e | e
      · subst e; exact a
      · exact paired_at t x e
/-- the two ints that stand at v -/
def pairAt (h : Heap) (v : Value) : Int × Int := match v with
  | .ref t => match h.get? t with
    | some o => match o.data with
      | .seq vs _ => match vs.toList with
        | [.int i _, .int j _] => (i, j)
        | _ => (0, 0)
      | _ => (0, 0)
    | none => (0, 0)
  | _ => (0, 0)
section
variable {X : Cx}
theorem cr_sortedPD : CallR X (.builtin "sorted") (rSortedPD X.K) := by
  intro pins s σ H vs us Q I r h
  obtain ⟨a, xs, ps, rfl, hs, hx, q⟩ := h
  obtain ⟨its, rv, hl, hz⟩ := I.list hs
  obtain ⟨u, rfl, ru⟩ := vals1 r
  obtain rfl : u = Value.ref a := ru
  obtain ⟨e1, e2⟩ := refs_back rv fun x m => by
    obtain ⟨_, _, t, e, _⟩ := paired_mem hx x m
    exact ⟨t, e⟩
  have key : ∀ (x : V) (p : Int × Int), PairV X.K H x p → ∃ t, x = .ref t ∧ Srt.IsPair s.heap (.ref t) p.1 p.2 ∧ pairAt s.heap (.ref t) = p := fun x p hp => by
    obtain ⟨t, rfl, st⟩ := hp
    obtain ⟨its2, r2, ⟨o, ho, hc, n, hd⟩, _⟩ := I.tuple st
    obtain ⟨u1, u2, rfl, ri, rj⟩ := vals2 r2
    obtain ⟨t1, rfl⟩ := ri
    obtain ⟨t2, rfl⟩ := rj
    exact ⟨t, rfl, ⟨t, o, t1, t2, n, rfl, ho, hc, hd⟩, by unfold pairAt; simp only [ho, hd]⟩
  have kb : ∀ v ∈ its, ∃ t p, v = .ref t ∧ V.ref t ∈ xs ∧ PairV X.K H (.ref t) p ∧ Srt.IsPair s.heap (.ref t) p.1 p.2 ∧ pairAt s.heap (.ref t) = p := fun v hv => by
    obtain ⟨t, rfl⟩ := e2 v hv
    have hm : V.ref t ∈ xs := by rw [e1]; exact List.mem_map.mpr ⟨_, hv, rfl⟩
    obtain ⟨p, _, hp⟩ := paired_mem hx _ hm
    obtain ⟨t', e, ip, pa⟩ := key _ _ hp
    cases e
    exact ⟨t, p, rfl, hm, hp, ip, pa⟩
  refine SrtO.sorted_pairsO (k := pairAt s.heap) hl.isList (by rw [← rv.length]; exact hz) (fun v hv => ?_) fun h' d out h1 h2 kp hd hn => ?_
  · obtain ⟨t, p, rfl, _, _, ip, pa⟩ := kb v hv
    rw [pa]
    exact ip
  · have ho : ∀ v ∈ out, v ∈ its := fun v hv => h2.perm.mem_iff.mp hv
    obtain ⟨n, hn⟩ := hn
    let kk : V → Int × Int := fun x => match x with | .ref t => pairAt s.heap (.ref t) | _ => (0, 0)
    have e3 : ∀ l : List Value, (∀ v ∈ l, v ∈ its) → l.map (pairAt s.heap) = (l.map backV).map kk := fun l hl => by
      rw [List.map_map]
      refine List.map_congr_left fun v hv => ?_
      obtain ⟨t, p, rfl, _⟩ := kb v (hl v hv)
      rfl
    have eps0 : ps = xs.map kk := paired_fun kk (fun x p hp => by
        obtain ⟨t, rfl, _, pa⟩ := key x p hp
        exact pa.symm) hx
    have eps : ps = its.map (pairAt s.heap) := by
      rw [e3 its fun _ z => z, eps0, ← e1]
    have ys : ∀ R : V → Int × Int → Prop, Paired R xs ps → Paired R (out.map backV) (out.map (pairAt s.heap)) := fun R hR => by
      rw [e3 out ho]
      refine paired_of kk fun y hy => ?_
      obtain ⟨v, hv, rfl⟩ := List.mem_map.mp hy
      rw [eps0] at hR
      exact paired_at hR _ (by rw [e1]; exact List.mem_map.mpr ⟨v, ho v hv, rfl⟩)
    have hb : (out.map (pairAt s.heap)).Perm ps := by
      rw [eps]
      exact h2.perm.map _
    have hs : (out.map (pairAt s.heap)).Pairwise lexLe := by
      refine List.pairwise_map.mpr (h1.imp fun {x y} z => ?_)
      have := SrtO.lexB_no.mp z
      unfold lexLe
      omega
    refine ⟨.ref d, upd H d (.lst (out.map backV)), I.laid (t' := s.toks) kp hd ⟨?_, out, n, vals_back (fun v hv => e2 v (ho v hv)), hn⟩, rfl, q _ d _ ys hb hs (I.hok.fresh hd)⟩
    rw [List.length_map, h2.perm.length_eq, ← rv.length]
    exact hz
/-- list + list, of any two lists -/
def rCatD (K : PySem.W.Frag) : R2 := fun x y H Q => ∃ l b xs zs, x = .ref l ∧ y = .ref b ∧ SqL K H l xs ∧ SqL K H b zs ∧ xs.length + zs.length ≤ sizeLine ∧ ∀ p, H p = none → Q (.ref p) (upd H p (.lst (xs ++ zs)))
theorem op_catD : OpR X (binaryOp .Add) (rCatD X.K) := by
  intro pins s σ H x y v u Q I rx ry ⟨l, b, xs, zs, ex, ey, hx, hy, hz, q⟩
  subst ex ey
  cases rx
  cases ry
  obtain ⟨i1, r1, ⟨⟨c1, d1, t1, sl1⟩, n1, g1, k1, _, w1⟩, _⟩ := I.list hx
  obtain ⟨i2, r2, ⟨⟨c2, d2, t2, sl2⟩, n2, g2, k2, _, w2⟩, _⟩ := I.list hy
  simp only at k1 w1 k2 w2
  subst k1 w1 k2 w2
  have e : i1.toArray ++ i2.toArray = (i1 ++ i2).toArray := by simp
  have hl : i1.toArray.size + i2.toArray.size ≤ sizeLine := by
    rw [List.size_toArray, List.size_toArray, ← r1.length, ← r2.length]
    exact hz
  refine concat_meets ⟨_, g1, rfl⟩ ⟨_, g2, rfl⟩ noFill_list_add seq_list_add PySem.F.slot_list_add PySem.F.entry_list_add (PySem.F.args_list_add_2 _ _)
    (PyProof.Rows.list_addW l b i1.toArray i2.toArray n1 n2 d1 d2 sl1 sl2 hl) ⟨g1, g2, ?_⟩
  rw [e]
  exact ⟨.ref _, _, I.lnew (t' := s.toks) (r1.append r2) (by rw [List.length_append]; exact hz), rfl, q _ I.fresh⟩
end
section
variable {K : PySem.W.Frag} {W : Wd} {ms : List Addr} {B : Bs} {H H' : Hp} {ρ ρ' ρ1 : List Sl} {σ σ' : L2.St} {d e : PyData} {ds es : List PyData} {s s1 s2 : Sl} {v : V} {vs : List V} {l : Addr} {i : Nat}
  {ta tb tc te tx tl ti tv tm : TE} {tt t u : TT} {wi : TI} {g : TG} {D : Ends} {ts ts' tz : TS} {Φ Φ1 Φ2 : Sl → Prop}
theorem dpa_take : ∀ {ds : List PyData} {vs : List V} (j : Nat), DpAll K H vs ds → DpAll K H (vs.take j) (ds.take j)
  | [], _, j, h => by cases h; simp; exact .nil
  | d :: ds, _, 0, h => by simp; exact .nil
  | d :: ds, _, j + 1, h => by
    cases h with
    | cons a t => rw [List.take_succ_cons, List.take_succ_cons]; exact .cons a (dpa_take j t)
theorem dpa_drop : ∀ {ds : List PyData} {vs : List V} (j : Nat), DpAll K H vs ds → DpAll K H (vs.drop j) (ds.drop j)
  | [], _, j, h => by cases h; simp; exact .nil
  | d :: ds, _, 0, h => h
  | d :: ds, _, j + 1, h => by
    cases h with
    | cons a t => rw [List.drop_succ_cons, List.drop_succ_cons]; exact dpa_drop j t
theorem ev_cat (ha : Evd K W ta ρ (.list ds)) (hb : Evd K W tb ρ (.list es)) (hz : ds.length + es.length ≤ 100000) : Evd K W (tOp (rCatD K) ta tb) ρ (.list (ds ++ es)) := ev_op ha hb fun ms H x y lv hx hy Q q => by
  cases hx with
  | lst sx dx => cases hy with
    | lst sy dy => exact ⟨_, _, _, _, rfl, rfl, sql_mono cut_le sx, sql_mono cut_le sy, by rw [dpa_len dx, dpa_len dy]; exact le_line hz, fun p hp => q _ _ (same_put hp) (Sl.new_lst lv hp (dpa_app dx dy))⟩
theorem ev_till {j : Nat} (ha : Evd K W ta ρ (.list ds)) (hb : Evd K W tb ρ (.int (j : Int))) (hj : j ≤ ds.length) : Evd K W (tSl (rSlL K) ta tNoPart (tPart tb)) ρ (.list (ds.take j)) := fun ms B σ H a Q q => ha ms B σ H a _ fun v H1 h1 x1 o1 => hb ms B σ H1 h1 _ fun w H2 h2 x2 o2 => by
  cases o2
  have o3 := dp_mono (x2.cut h1.sub) _ _ o1
  cases o3 with
  | lst sx dx =>
    refine ⟨_, rfl, _, _, rfl, sql_mono cut_le sx, fun p hp => q _ _ (h2.same (same_put hp)) ((x1.trans x2).trans (.of_same (same_put hp))) ?_⟩
    have e : ∀ xs : List V, xs.length = ds.length → cutV xs none (some (j : Int)) = xs.take j := fun xs hx => by
      unfold cutV
      rw [HT.sIx_none, HT.sIx_nat, List.drop_zero, Nat.sub_zero, hx, Nat.min_eq_left hj]
    rw [e _ (dpa_len dx)]
    exact Sl.new_lst h2.live hp (dpa_take j dx)
theorem ev_from {j : Nat} (ha : Evd K W ta ρ (.list ds)) (hb : Evd K W tb ρ (.int (j : Int))) (hj : j ≤ ds.length) : Evd K W (tSl (rSlL K) ta (tPart tb) tNoPart) ρ (.list (ds.drop j)) := fun ms B σ H a Q q => ha ms B σ H a _ fun v H1 h1 x1 o1 => hb ms B σ H1 h1 _ fun w H2 h2 x2 o2 => by
  cases o2
  have o3 := dp_mono (x2.cut h1.sub) _ _ o1
  cases o3 with
  | lst sx dx =>
    refine ⟨_, rfl, _, _, rfl, sql_mono cut_le sx, fun p hp => q _ _ (h2.same (same_put hp)) ((x1.trans x2).trans (.of_same (same_put hp))) ?_⟩
    have e : ∀ xs : List V, xs.length = ds.length → cutV xs (some (j : Int)) none = xs.drop j := fun xs hx => by
      unfold cutV
      rw [HT.sIx_none, HT.sIx_nat, hx, Nat.min_eq_left hj, List.take_of_length_le (by rw [List.length_drop, hx]; exact Nat.le_refl _)]
    rw [e _ (dpa_len dx)]
    exact Sl.new_lst h2.live hp (dpa_drop j dx)
theorem ev_ltT {ns ks : List Int} (ha : Evd K W ta ρ (.tuple (ns.map .int))) (hb : Evd K W tb ρ (.tuple (ks.map .int))) : Evd K W (tOp (rLtT K) ta tb) ρ (.bool (HT.lexLt ns ks)) := ev_op ha hb fun ms H x y lv hx hy Q q => by
  cases hx with
  | tup sx dx => cases hy with
    | tup sy dy =>
      obtain rfl := dpa_ints dx
      obtain rfl := dpa_ints dy
      exact ⟨_, _, _, _, rfl, rfl, sqt_mono cut_le sx, sqt_mono cut_le sy, q _ H (Same.refl H) (.bl _)⟩
theorem ev_place {ns : List Int} {j : Nat} {x : Int} (ha : Evd K W ta ρ (.list (ns.map .int))) (hb : Evd K W tb ρ (.int x)) (hj : ns[j]? = some x) (hno : ∀ m : Nat, m < j → ns[m]? ≠ some x) : Evd K W (tBM K "list" (rIndex K) ta (tCons tb tNil)) ρ (.int (j : Int)) := fun ms B σ H a Q q => ha ms B σ H a _ fun v H1 h1 x1 o1 => by
  cases o1 with
  | lst sx dx =>
    obtain rfl := dpa_ints dx
    refine ⟨.inl ⟨rfl, _, sql_mono cut_le sx⟩, hb ms B σ H1 h1 _ fun w H2 h2 x2 o2 => ?_⟩
    cases o2
    refine ⟨_, _, _, j, .int x, rfl, rfl, sql_mono ((x2.cut h1.sub).trans cut_le) sx, rfl, List.all_eq_true.mpr fun z hz => ?_, by rw [List.getElem?_map, hj]; rfl, by simp [eqV], fun m z hm hz => ?_, q _ H2 h2 (x1.trans x2) (.int _)⟩
    · obtain ⟨n, _, rfl⟩ := List.mem_map.mp hz
      rfl
    · rw [List.getElem?_map] at hz
      cases e : ns[m]? with
      | none => rw [e] at hz; cases hz
      | some n =>
        rw [e] at hz
        cases hz
        have := hno m hm
        rw [e] at this
        show (n == x) = false
        exact beq_eq_false_iff_ne.mpr fun z => this (by rw [z])
theorem ev_neg {j : Int} (h : Evd K W te ρ (.int j)) : Evd K W (tUn (rU fun i => .int (-i)) te) ρ (.int (-j)) := fun ms B σ H a Q q => h ms B σ H a _ fun v H1 h1 x1 o1 => by
  cases o1
  exact ⟨j, rfl, q _ H1 h1 x1 (.int _)⟩
/-- sorted(pairs of ints) -/
theorem ef_sortedP {ps : List (Int × Int)} (h : Evd K W te ρ (.list (ps.map pairI))) : EvF K W (tCB (rSortedPD K) (tCons te tNil)) ρ (fun es => ∃ qs : List (Int × Int), es = qs.map pairI ∧ qs.Perm ps ∧ qs.Pairwise lexLe) := fun ms B σ H a Q q => h ms B σ H a _ fun v H1 h1 x1 o1 => by
  cases o1 with
  | @lst _ xs _ sx dx =>
    have conv : ∀ {ps : List (Int × Int)} {xs : List V}, DpAll K (cut ms H1) xs (ps.map pairI) → Paired (fun x p => PairV K H1 x p ∧ Dp K (cut ms H1) x (pairI p)) xs ps := fun {ps} => by
      induction ps with
      | nil => intro xs h; cases h; exact .nil
      | cons p ps ih =>
        intro xs h
        cases h with
        | cons a t =>
          refine .cons ⟨?_, a⟩ (ih t)
          cases a with
          | tup st da =>
            obtain rfl := dpa_ints (ns := [p.1, p.2]) da
            exact ⟨_, rfl, sqt_mono cut_le st⟩
    have back : ∀ {qs : List (Int × Int)} {ys : List V}, Paired (fun x p => PairV K H1 x p ∧ Dp K (cut ms H1) x (pairI p)) ys qs → DpAll K (cut ms H1) ys (qs.map pairI) := fun {qs ys} h => by
      induction h with
      | nil => exact .nil
      | cons a _ ih => exact .cons a.2 ih
    have pp := conv dx
    have strip : ∀ {qs : List (Int × Int)} {ys : List V}, Paired (fun x p => PairV K H1 x p ∧ Dp K (cut ms H1) x (pairI p)) ys qs → Paired (PairV K H1) ys qs := fun {qs ys} h => by
      induction h with
      | nil => exact .nil
      | cons a _ ih => exact .cons a.1 ih
    have p0 := strip pp
    refine ⟨_, _, ps, rfl, sql_mono cut_le sx, p0, fun ys p qs hR hp hs hn => ?_⟩
    have hp0 : H p = none := by
      have hw := (h1.fresh hn).2.2
      cases z : H p with
      | none => rfl
      | some o => rw [x1 p o hw z] at hn; cases hn
    exact q _ p ys _ ⟨qs, rfl, hp, hs⟩ (h1.same (same_put hn)) (x1.trans (.of_same (same_put hn))) hp0 upd_same (dpa_mono ((cut_new hn).trans cut_drop) _ _ (back (hR _ pp)))
end
end Fw

/-! The frame, 12: bools shown and compared; the last item. -/
namespace Fw
open PySem L2
open PyProof.Rows (envOfC)
def rReprB : List V → Hp → VK → Prop := fun xs H Q => ∃ b : Bool, xs = [.bl b] ∧ Q (.str (if b then "True" else "False")) H
theorem cr_reprB {X : Cx} : CallR X (.builtin "repr") rReprB := by
  intro pins s σ H xs us Q I r ⟨b, e, q⟩
  subst e
  obtain ⟨u, rfl, ru⟩ := vals1 r
  obtain rfl : u = Value.bool b := ru
  exact PySem.P.repr_of_bool ⟨.str _, H, I.tok _, ⟨_, rfl⟩, q⟩
section
variable {K : PySem.W.Frag} {W : Wd} {ρ : List Sl} {ta tb te : TE} {ds : List PyData}
theorem ev_reprB {b : Bool} (h : Evd K W te ρ (.bool b)) : Evd K W (tCB rReprB (tCons te tNil)) ρ (.str (if b then "True" else "False")) := fun ms B σ H a Q q => h ms B σ H a _ fun v H1 h1 x1 o1 => by
  cases o1
  exact ⟨b, rfl, q _ H1 h1 x1 (.str _)⟩
theorem ev_notB {a b : Bool} (ha : Evd K W ta ρ (.bool a)) (hb : Evd K W tb ρ (.bool b)) : Evd K W (tOp rNotB ta tb) ρ (.bool (!decide (a = b))) := ev_op ha hb fun ms H x y _ hx hy Q q => by
  cases hx
  cases hy
  exact ⟨a, b, rfl, rfl, q _ H (Same.refl H) (.bl _)⟩
theorem atI_last {d : PyData} (h : ds[ds.length - 1]? = some d) : atI ds (-1) = some d := by
  have l : ds.length - 1 < ds.length := (List.getElem?_eq_some_iff.mp h).1
  unfold atI ixN
  rw [if_neg (by decide), if_pos (by omega)]
  show ds[(-1 + (ds.length : Int)).toNat]? = some d
  rw [show (-1 + (ds.length : Int)).toNat = ds.length - 1 by omega]
  exact h
end
end Fw

/-! k69, 1: the text, the data, the defs that judge. -/
namespace Sc
open PySem L2 Fw
open PyProof.Rows (envOfC)
def g_fo (us ws : List Value) : List Value := match us, ws with | [], [a, b] => [b, a] | _, _ => []
def gV_fo (us ws : List V) : List V := match us, ws with | [], [a, b] => [b, a] | _, _ => []
def g_ifo (us ws : List Value) : List Value := match us, ws with | [], [a, b, c] => [c, b, a] | _, _ => []
def gV_ifo (us ws : List V) : List V := match us, ws with | [], [a, b, c] => [c, b, a] | _, _ => []
theorem kb_fo {K : PySem.W.Frag} {fd : FuncData} (h : ∀ (s : Shared) (a b : Value), BindsTo s fd ⟨[], [("field", a), ("formula", b)]⟩ [("formula", b), ("field", a)]) : KBinds K fd ["formula", "field"] ["field", "formula"] g_fo gV_fo := by
  refine ⟨fun s us ws _ hl => ?_, fun {vs us zs ws} r rz => ?_⟩
  · revert hl
    unfold g_fo
    split
    · exact fun _ => h s _ _
    · exact fun q => nomatch q
  · cases r with
    | cons _ _ => exact .nil
    | nil =>
      cases rz with
      | nil => exact .nil
      | cons a rz =>
        cases rz with
        | nil => exact .nil
        | cons b rz =>
          cases rz with
          | nil => exact .cons b (.cons a .nil)
          | cons _ _ => exact .nil
theorem kb_ifo {K : PySem.W.Frag} {fd : FuncData} (h : ∀ (s : Shared) (a b c : Value), BindsTo s fd ⟨[], [("index", a), ("field", b), ("formula", c)]⟩ [("formula", c), ("field", b), ("index", a)]) : KBinds K fd ["formula", "field", "index"] ["index", "field", "formula"] g_ifo gV_ifo := by
  refine ⟨fun s us ws _ hl => ?_, fun {vs us zs ws} r rz => ?_⟩
  · revert hl
    unfold g_ifo
    split
    · exact fun _ => h s _ _ _
    · exact fun q => nomatch q
  · cases r with
    | cons _ _ => exact .nil
    | nil =>
      cases rz with
      | nil => exact .nil
      | cons a rz =>
        cases rz with
        | nil => exact .nil
        | cons b rz =>
          cases rz with
          | nil => exact .nil
          | cons c rz =>
            cases rz with
            | nil => exact .cons c (.cons b (.cons a .nil))
            | cons _ _ => exact .nil
def g_sffo (us ws : List Value) : List Value := match us, ws with | [], [a, b, c, e] => [e, c, b, a] | _, _ => []
def gV_sffo (us ws : List V) : List V := match us, ws with | [], [a, b, c, e] => [e, c, b, a] | _, _ => []
theorem kb_sffo {K : PySem.W.Frag} {fd : FuncData} (h : ∀ (s : Shared) (a b c e : Value), BindsTo s fd ⟨[], [("second", a), ("first", b), ("field", c), ("formula", e)]⟩ [("formula", e), ("field", c), ("first", b), ("second", a)]) : KBinds K fd ["formula", "field", "first", "second"] ["second", "first", "field", "formula"] g_sffo gV_sffo := by
  refine ⟨fun s us ws _ hl => ?_, fun {vs us zs ws} r rz => ?_⟩
  · revert hl
    unfold g_sffo
    split
    · exact fun _ => h s _ _ _ _
    · exact fun q => nomatch q
  · cases r with
    | cons _ _ => exact .nil
    | nil =>
      cases rz with
      | nil => exact .nil
      | cons a rz =>
        cases rz with
        | nil => exact .nil
        | cons b rz =>
          cases rz with
          | nil => exact .nil
          | cons c rz =>
            cases rz with
            | nil => exact .nil
            | cons e rz =>
              cases rz with
              | nil => exact .cons e (.cons c (.cons b (.cons a .nil)))
              | cons _ _ => exact .nil
def top (i : Nat) : Stmt := PySem.Challenge.pw_protestproof_k70_whole_rankings_and_lowe.main.body.getD i (.Pass ⟨0, 0, 0, 0⟩)
abbrev sis_whole : Stmt := top 11
abbrev nis_whole : List Str := ["thing", "low", "high"]
theorem scis_whole : FnScope ["thing", "low", "high"] ["thing", "low", "high"] (defScope sis_whole) := ⟨rfl, rfl, rfl, by decide +kernel, rfl, by decide +kernel, by decide +kernel⟩
abbrev sis_bid : Stmt := top 12
abbrev nis_bid : List Str := ["thing", "marks", "mark"]
theorem scis_bid : FnScope ["thing", "marks", "mark"] ["thing"] (defScope sis_bid) := ⟨rfl, rfl, rfl, by decide +kernel, rfl, by decide +kernel, by decide +kernel⟩
abbrev sis_field : Stmt := top 13
abbrev nis_field : List Str := ["thing", "bid"]
theorem scis_field : FnScope ["thing", "bid"] ["thing"] (defScope sis_field) := ⟨rfl, rfl, rfl, by decide +kernel, rfl, by decide +kernel, by decide +kernel⟩
abbrev sneed_field : Stmt := top 14
abbrev nneed_field : List Str := ["field"]
theorem scneed_field : FnScope ["field"] ["field"] (defScope sneed_field) := ⟨rfl, rfl, rfl, by decide +kernel, rfl, by decide +kernel, by decide +kernel⟩
abbrev sneed_index : Stmt := top 15
abbrev nneed_index : List Str := ["field", "index"]
theorem scneed_index : FnScope ["field", "index"] ["field", "index"] (defScope sneed_index) := ⟨rfl, rfl, rfl, by decide +kernel, rfl, by decide +kernel, by decide +kernel⟩
abbrev sprices_of : Stmt := top 16
abbrev nprices_of : List Str := ["field", "bid"]
theorem scprices_of : FnScope ["field", "bid"] ["field"] (defScope sprices_of) := ⟨rfl, rfl, rfl, by decide +kernel, rfl, by decide +kernel, by decide +kernel⟩
abbrev sis_term : Stmt := top 21
abbrev nis_term : List Str := ["thing"]
theorem scis_term : FnScope ["thing"] ["thing"] (defScope sis_term) := ⟨rfl, rfl, rfl, by decide +kernel, rfl, by decide +kernel, by decide +kernel⟩
abbrev sis_formula : Stmt := top 22
abbrev nis_formula : List Str := ["thing", "term"]
theorem scis_formula : FnScope ["thing", "term"] ["thing"] (defScope sis_formula) := ⟨rfl, rfl, rfl, by decide +kernel, rfl, by decide +kernel, by decide +kernel⟩
abbrev sneed_formula : Stmt := top 23
abbrev nneed_formula : List Str := ["formula"]
theorem scneed_formula : FnScope ["formula"] ["formula"] (defScope sneed_formula) := ⟨rfl, rfl, rfl, by decide +kernel, rfl, by decide +kernel, by decide +kernel⟩
abbrev smark_weights : Stmt := top 24
abbrev nmark_weights : List Str := ["formula", "sums", "term"]
theorem scmark_weights : FnScope ["formula", "sums", "term"] ["formula"] (defScope smark_weights) := ⟨rfl, rfl, rfl, by decide +kernel, rfl, by decide +kernel, by decide +kernel⟩
abbrev srelative_weights : Stmt := top 25
abbrev nrelative_weights : List Str := ["formula", "term", "word"]
theorem screlative_weights : FnScope ["formula", "term", "word"] ["formula"] (defScope srelative_weights) := ⟨rfl, rfl, rfl, by decide +kernel, rfl, by decide +kernel, by decide +kernel⟩
abbrev smarks_part : Stmt := top 27
abbrev nmarks_part : List Str := ["formula", "bid", "weight", "mark"]
theorem scmarks_part : FnScope ["formula", "bid", "weight", "mark"] ["formula", "bid"] (defScope smarks_part) := ⟨rfl, rfl, rfl, by decide +kernel, rfl, by decide +kernel, by decide +kernel⟩
abbrev sscore_of : Stmt := top 28
abbrev nscore_of : List Str := ["formula", "field", "index", "low", "spread", "middle", "prices", "bid", "price", "least", "greatest", "over", "under", "common"]
theorem scscore_of : FnScope ["formula", "field", "index", "low", "spread", "middle", "prices", "bid", "price", "least", "greatest", "over", "under", "common"] ["formula", "field", "index"] (defScope sscore_of) := ⟨rfl, rfl, rfl, by decide +kernel, rfl, by decide +kernel, by decide +kernel⟩
abbrev sscores_of : Stmt := top 29
abbrev nscores_of : List Str := ["formula", "field", "index"]
theorem scscores_of : FnScope ["formula", "field", "index"] ["formula", "field"] (defScope sscores_of) := ⟨rfl, rfl, rfl, by decide +kernel, rfl, by decide +kernel, by decide +kernel⟩
abbrev s_law_begun : Stmt := top 36
abbrev n_law_begun : List Str := ["script", "large", "cell"]
theorem sc_law_begun : FnScope ["script", "large", "cell"] ["script"] (defScope s_law_begun) := ⟨rfl, rfl, rfl, by decide +kernel, rfl, by decide +kernel, by decide +kernel⟩
abbrev s_law_mixed : Stmt := top 37
abbrev n_law_mixed : List Str := ["draw", "turn", "found", "great", "blend", "cell"]
theorem sc_law_mixed : FnScope ["draw", "turn", "found", "great", "blend", "cell"] ["draw"] (defScope s_law_mixed) := ⟨rfl, rfl, rfl, by decide +kernel, rfl, by decide +kernel, by decide +kernel⟩
abbrev s_law_take : Stmt := top 38
abbrev n_law_take : List Str := ["draw", "many", "found"]
theorem sc_law_take : FnScope ["draw", "many", "found"] ["draw", "many"] (defScope s_law_take) := ⟨rfl, rfl, rfl, by decide +kernel, rfl, by decide +kernel, by decide +kernel⟩
abbrev s_law_pick : Stmt := top 39
abbrev n_law_pick : List Str := ["draw", "some"]
theorem sc_law_pick : FnScope ["draw", "some"] ["draw", "some"] (defScope s_law_pick) := ⟨rfl, rfl, rfl, by decide +kernel, rfl, by decide +kernel, by decide +kernel⟩
abbrev s_law_price : Stmt := top 40
abbrev n_law_price : List Str := ["draw"]
theorem sc_law_price : FnScope ["draw"] ["draw"] (defScope s_law_price) := ⟨rfl, rfl, rfl, by decide +kernel, rfl, by decide +kernel, by decide +kernel⟩
abbrev s_law_bid : Stmt := top 41
abbrev n_law_bid : List Str := ["draw", "most", "k"]
theorem sc_law_bid : FnScope ["draw", "most", "k"] ["draw"] (defScope s_law_bid) := ⟨rfl, rfl, rfl, by decide +kernel, rfl, by decide +kernel, by decide +kernel⟩
abbrev s_law_field : Stmt := top 42
abbrev n_law_field : List Str := ["draw", "many", "found", "k"]
theorem sc_law_field : FnScope ["draw", "many", "found", "k"] ["draw", "many"] (defScope s_law_field) := ⟨rfl, rfl, rfl, by decide +kernel, rfl, by decide +kernel, by decide +kernel⟩
abbrev s_law_formula : Stmt := top 43
abbrev n_law_formula : List Str := ["draw", "kinds", "most", "found", "k", "word", "weight"]
theorem sc_law_formula : FnScope ["draw", "kinds", "most", "found", "k", "word", "weight"] ["draw"] (defScope s_law_formula) := ⟨rfl, rfl, rfl, by decide +kernel, rfl, by decide +kernel, by decide +kernel⟩
abbrev s_law_over : Stmt := top 44
abbrev n_law_over : List Str := ["formula", "field", "index", "prices", "word", "price", "marks", "bid", "least", "greatest", "over", "under", "term", "one", "other"]
theorem sc_law_over : FnScope ["formula", "field", "index", "prices", "word", "price", "marks", "bid", "least", "greatest", "over", "under", "term", "one", "other"] ["formula", "field", "index"] (defScope s_law_over) := ⟨rfl, rfl, rfl, by decide +kernel, rfl, by decide +kernel, by decide +kernel⟩
abbrev sleads : Stmt := top 31
abbrev nleads : List Str := ["field", "found", "first", "second", "one", "other"]
theorem scleads : FnScope ["field", "found", "first", "second", "one", "other"] ["field", "found", "first", "second"] (defScope sleads) := ⟨rfl, rfl, rfl, by decide +kernel, rfl, by decide +kernel, by decide +kernel⟩
abbrev sranking_of : Stmt := top 32
abbrev nranking_of : List Str := ["formula", "field", "found", "places", "index", "ahead_of", "other", "place"]
theorem scranking_of : FnScope ["formula", "field", "found", "places", "index", "ahead_of", "other", "place"] ["formula", "field"] (defScope sranking_of) := ⟨rfl, rfl, rfl, by decide +kernel, rfl, by decide +kernel, by decide +kernel⟩
abbrev sranking : Stmt := top 33
abbrev nranking : List Str := ["formula", "field"]
theorem scranking : FnScope ["formula", "field"] ["formula", "field"] (defScope sranking) := ⟨rfl, rfl, rfl, by decide +kernel, rfl, by decide +kernel, by decide +kernel⟩
abbrev sahead : Stmt := top 34
abbrev nahead : List Str := ["formula", "field", "first", "second"]
theorem scahead : FnScope ["formula", "field", "first", "second"] ["formula", "field", "first", "second"] (defScope sahead) := ⟨rfl, rfl, rfl, by decide +kernel, rfl, by decide +kernel, by decide +kernel⟩
abbrev s_law_leads : Stmt := top 45
abbrev n_law_leads : List Str := ["field", "found", "first", "second", "one", "other"]
theorem sc_law_leads : FnScope ["field", "found", "first", "second", "one", "other"] ["field", "found", "first", "second"] (defScope s_law_leads) := ⟨rfl, rfl, rfl, by decide +kernel, rfl, by decide +kernel, by decide +kernel⟩
abbrev s_law_order : Stmt := top 46
abbrev n_law_order : List Str := ["formula", "field", "found", "order", "index", "at", "other"]
theorem sc_law_order : FnScope ["formula", "field", "found", "order", "index", "at", "other"] ["formula", "field"] (defScope s_law_order) := ⟨rfl, rfl, rfl, by decide +kernel, rfl, by decide +kernel, by decide +kernel⟩
abbrev slaw : Stmt := top 47
abbrev nlaw : List Str := ["script", "draw", "turn", "formula", "many", "field", "due", "given", "told", "lap", "one", "other", "index", "word", "price", "marks", "lower", "later", "order", "beaten"]
theorem sclaw : FnScope ["script", "draw", "turn", "formula", "many", "field", "due", "given", "told", "lap", "one", "other", "index", "word", "price", "marks", "lower", "later", "order", "beaten"] ["script"] (defScope slaw) := ⟨rfl, rfl, rfl, by decide +kernel, rfl, by decide +kernel, by decide +kernel⟩
structure Txt (K : PySem.W.Frag) (mg : Str → Option Value) where
  ais_whole : Addr
  dis_whole : FuncData
  Fis_whole : Fun K "is_whole" "is_whole" sis_whole ais_whole dis_whole
  g_is_whole : mg "is_whole" = some (.ref ais_whole)
  k_is_whole : PySem.W.keepIn K (.ref ais_whole) = true
  b_is_whole : Binds K dis_whole ["thing", "low", "high"] []
  ais_bid : Addr
  dis_bid : FuncData
  Fis_bid : Fun K "is_bid" "is_bid" sis_bid ais_bid dis_bid
  g_is_bid : mg "is_bid" = some (.ref ais_bid)
  k_is_bid : PySem.W.keepIn K (.ref ais_bid) = true
  b_is_bid : Binds K dis_bid ["thing"] []
  ais_field : Addr
  dis_field : FuncData
  Fis_field : Fun K "is_field" "is_field" sis_field ais_field dis_field
  g_is_field : mg "is_field" = some (.ref ais_field)
  k_is_field : PySem.W.keepIn K (.ref ais_field) = true
  b_is_field : Binds K dis_field ["thing"] []
  aneed_field : Addr
  dneed_field : FuncData
  Fneed_field : Fun K "need_field" "need_field" sneed_field aneed_field dneed_field
  g_need_field : mg "need_field" = some (.ref aneed_field)
  k_need_field : PySem.W.keepIn K (.ref aneed_field) = true
  b_need_field : Binds K dneed_field ["field"] []
  aneed_index : Addr
  dneed_index : FuncData
  Fneed_index : Fun K "need_index" "need_index" sneed_index aneed_index dneed_index
  g_need_index : mg "need_index" = some (.ref aneed_index)
  k_need_index : PySem.W.keepIn K (.ref aneed_index) = true
  b_need_index : Binds K dneed_index ["field", "index"] []
  aprices_of : Addr
  dprices_of : FuncData
  Fprices_of : Fun K "prices_of" "prices_of" sprices_of aprices_of dprices_of
  g_prices_of : mg "prices_of" = some (.ref aprices_of)
  k_prices_of : PySem.W.keepIn K (.ref aprices_of) = true
  b_prices_of : Binds K dprices_of ["field"] []
  ais_term : Addr
  dis_term : FuncData
  Fis_term : Fun K "is_term" "is_term" sis_term ais_term dis_term
  g_is_term : mg "is_term" = some (.ref ais_term)
  k_is_term : PySem.W.keepIn K (.ref ais_term) = true
  b_is_term : Binds K dis_term ["thing"] []
  ais_formula : Addr
  dis_formula : FuncData
  Fis_formula : Fun K "is_formula" "is_formula" sis_formula ais_formula dis_formula
  g_is_formula : mg "is_formula" = some (.ref ais_formula)
  k_is_formula : PySem.W.keepIn K (.ref ais_formula) = true
  b_is_formula : Binds K dis_formula ["thing"] []
  aneed_formula : Addr
  dneed_formula : FuncData
  Fneed_formula : Fun K "need_formula" "need_formula" sneed_formula aneed_formula dneed_formula
  g_need_formula : mg "need_formula" = some (.ref aneed_formula)
  k_need_formula : PySem.W.keepIn K (.ref aneed_formula) = true
  b_need_formula : Binds K dneed_formula ["formula"] []
  amark_weights : Addr
  dmark_weights : FuncData
  Fmark_weights : Fun K "mark_weights" "mark_weights" smark_weights amark_weights dmark_weights
  g_mark_weights : mg "mark_weights" = some (.ref amark_weights)
  k_mark_weights : PySem.W.keepIn K (.ref amark_weights) = true
  b_mark_weights : Binds K dmark_weights ["formula"] []
  arelative_weights : Addr
  drelative_weights : FuncData
  Frelative_weights : Fun K "relative_weights" "relative_weights" srelative_weights arelative_weights drelative_weights
  g_relative_weights : mg "relative_weights" = some (.ref arelative_weights)
  k_relative_weights : PySem.W.keepIn K (.ref arelative_weights) = true
  b_relative_weights : Binds K drelative_weights ["formula"] []
  amarks_part : Addr
  dmarks_part : FuncData
  Fmarks_part : Fun K "marks_part" "marks_part" smarks_part amarks_part dmarks_part
  g_marks_part : mg "marks_part" = some (.ref amarks_part)
  k_marks_part : PySem.W.keepIn K (.ref amarks_part) = true
  b_marks_part : Binds K dmarks_part ["formula", "bid"] []
  ascore_of : Addr
  dscore_of : FuncData
  Fscore_of : Fun K "score_of" "score_of" sscore_of ascore_of dscore_of
  g_score_of : mg "score_of" = some (.ref ascore_of)
  k_score_of : PySem.W.keepIn K (.ref ascore_of) = true
  b_score_of : Binds K dscore_of ["formula", "field", "index"] []
  ascores_of : Addr
  dscores_of : FuncData
  Fscores_of : Fun K "scores_of" "scores_of" sscores_of ascores_of dscores_of
  g_scores_of : mg "scores_of" = some (.ref ascores_of)
  k_scores_of : PySem.W.keepIn K (.ref ascores_of) = true
  b_scores_of : Binds K dscores_of ["formula", "field"] []
  a_law_begun : Addr
  d_law_begun : FuncData
  F_law_begun : Fun K "_law_begun" "_law_begun" s_law_begun a_law_begun d_law_begun
  g__law_begun : mg "_law_begun" = some (.ref a_law_begun)
  k__law_begun : PySem.W.keepIn K (.ref a_law_begun) = true
  b__law_begun : Binds K d_law_begun ["script"] []
  a_law_mixed : Addr
  d_law_mixed : FuncData
  F_law_mixed : Fun K "_law_mixed" "_law_mixed" s_law_mixed a_law_mixed d_law_mixed
  g__law_mixed : mg "_law_mixed" = some (.ref a_law_mixed)
  k__law_mixed : PySem.W.keepIn K (.ref a_law_mixed) = true
  b__law_mixed : Binds K d_law_mixed ["draw"] []
  a_law_take : Addr
  d_law_take : FuncData
  F_law_take : Fun K "_law_take" "_law_take" s_law_take a_law_take d_law_take
  g__law_take : mg "_law_take" = some (.ref a_law_take)
  k__law_take : PySem.W.keepIn K (.ref a_law_take) = true
  b__law_take : Binds K d_law_take ["draw", "many"] []
  a_law_pick : Addr
  d_law_pick : FuncData
  F_law_pick : Fun K "_law_pick" "_law_pick" s_law_pick a_law_pick d_law_pick
  g__law_pick : mg "_law_pick" = some (.ref a_law_pick)
  k__law_pick : PySem.W.keepIn K (.ref a_law_pick) = true
  b__law_pick : Binds K d_law_pick ["draw", "some"] []
  a_law_price : Addr
  d_law_price : FuncData
  F_law_price : Fun K "_law_price" "_law_price" s_law_price a_law_price d_law_price
  g__law_price : mg "_law_price" = some (.ref a_law_price)
  k__law_price : PySem.W.keepIn K (.ref a_law_price) = true
  b__law_price : Binds K d_law_price ["draw"] []
  a_law_bid : Addr
  d_law_bid : FuncData
  F_law_bid : Fun K "_law_bid" "_law_bid" s_law_bid a_law_bid d_law_bid
  g__law_bid : mg "_law_bid" = some (.ref a_law_bid)
  k__law_bid : PySem.W.keepIn K (.ref a_law_bid) = true
  b__law_bid : Binds K d_law_bid ["draw"] []
  a_law_field : Addr
  d_law_field : FuncData
  F_law_field : Fun K "_law_field" "_law_field" s_law_field a_law_field d_law_field
  g__law_field : mg "_law_field" = some (.ref a_law_field)
  k__law_field : PySem.W.keepIn K (.ref a_law_field) = true
  b__law_field : Binds K d_law_field ["draw", "many"] []
  a_law_formula : Addr
  d_law_formula : FuncData
  F_law_formula : Fun K "_law_formula" "_law_formula" s_law_formula a_law_formula d_law_formula
  g__law_formula : mg "_law_formula" = some (.ref a_law_formula)
  k__law_formula : PySem.W.keepIn K (.ref a_law_formula) = true
  b__law_formula : Binds K d_law_formula ["draw"] []
  a_law_over : Addr
  d_law_over : FuncData
  F_law_over : Fun K "_law_over" "_law_over" s_law_over a_law_over d_law_over
  g__law_over : mg "_law_over" = some (.ref a_law_over)
  k__law_over : PySem.W.keepIn K (.ref a_law_over) = true
  b__law_over : Binds K d_law_over ["formula", "field", "index"] []
  aleads : Addr
  dleads : FuncData
  Fleads : Fun K "leads" "leads" sleads aleads dleads
  g_leads : mg "leads" = some (.ref aleads)
  k_leads : PySem.W.keepIn K (.ref aleads) = true
  b_leads : Binds K dleads ["field", "found", "first", "second"] []
  aranking_of : Addr
  dranking_of : FuncData
  Franking_of : Fun K "ranking_of" "ranking_of" sranking_of aranking_of dranking_of
  g_ranking_of : mg "ranking_of" = some (.ref aranking_of)
  k_ranking_of : PySem.W.keepIn K (.ref aranking_of) = true
  b_ranking_of : Binds K dranking_of ["formula", "field"] []
  aranking : Addr
  dranking : FuncData
  Franking : Fun K "ranking" "ranking" sranking aranking dranking
  g_ranking : mg "ranking" = some (.ref aranking)
  k_ranking : PySem.W.keepIn K (.ref aranking) = true
  b_ranking : Binds K dranking ["formula", "field"] []
  bk_ranking_field_formula : KBinds K dranking ["formula", "field"] ["field", "formula"] g_fo gV_fo
  aahead : Addr
  dahead : FuncData
  Fahead : Fun K "ahead" "ahead" sahead aahead dahead
  g_ahead : mg "ahead" = some (.ref aahead)
  k_ahead : PySem.W.keepIn K (.ref aahead) = true
  b_ahead : Binds K dahead ["formula", "field", "first", "second"] []
  bk_ahead_second_first_field_formula : KBinds K dahead ["formula", "field", "first", "second"] ["second", "first", "field", "formula"] g_sffo gV_sffo
  a_law_leads : Addr
  d_law_leads : FuncData
  F_law_leads : Fun K "_law_leads" "_law_leads" s_law_leads a_law_leads d_law_leads
  g__law_leads : mg "_law_leads" = some (.ref a_law_leads)
  k__law_leads : PySem.W.keepIn K (.ref a_law_leads) = true
  b__law_leads : Binds K d_law_leads ["field", "found", "first", "second"] []
  a_law_order : Addr
  d_law_order : FuncData
  F_law_order : Fun K "_law_order" "_law_order" s_law_order a_law_order d_law_order
  g__law_order : mg "_law_order" = some (.ref a_law_order)
  k__law_order : PySem.W.keepIn K (.ref a_law_order) = true
  b__law_order : Binds K d_law_order ["formula", "field"] []
  alaw : Addr
  dlaw : FuncData
  Flaw : Fun K "law" "law" slaw alaw dlaw
  g_law : mg "law" = some (.ref alaw)
  k_law : PySem.W.keepIn K (.ref alaw) = true
  b_law : Binds K dlaw ["script"] []
  n_abs : mg "abs" = none
  n_all : mg "all" = none
  n_bool : mg "bool" = none
  n_gcd : mg "gcd" = some (.builtin "math.gcd")
  n_int : mg "int" = none
  n_isinstance : mg "isinstance" = none
  n_len : mg "len" = none
  n_list : mg "list" = none
  n_max : mg "max" = none
  n_min : mg "min" = none
  n_range : mg "range" = none
  n_repr : mg "repr" = none
  n_sorted : mg "sorted" = none
  n_str : mg "str" = none
  n_sum : mg "sum" = none
  n_tuple : mg "tuple" = none
  n_zip : mg "zip" = none
  c_MARK_COUNT : ∃ u, mg "MARK_COUNT" = some u ∧ RelV (.int 4) u
  c_MOST_BIDS : ∃ u, mg "MOST_BIDS" = some u ∧ RelV (.int 130) u
  c_MOST_MARK : ∃ u, mg "MOST_MARK" = some u ∧ RelV (.int 100) u
  c_MOST_PRICE : ∃ u, mg "MOST_PRICE" = some u ∧ RelV (.int 1000000000) u
  c_MOST_TERMS : ∃ u, mg "MOST_TERMS" = some u ∧ RelV (.int 6) u
  c_MOST_WEIGHT : ∃ u, mg "MOST_WEIGHT" = some u ∧ RelV (.int 1000) u
  aRELATIVES : Addr
  c_RELATIVES : ∃ u, mg "RELATIVES" = some u ∧ RelV (.ref aRELATIVES) u
  e_RELATIVES : ∀ H, Dp K H (.ref aRELATIVES) (.tuple [.str "low", .str "range", .str "mean"])

/-! ### data -/
structure Bid where
  price : Int
  marks : List Int
def Bid.d (b : Bid) : PyData := .tuple [.str "bid", .int b.price, .tuple (b.marks.map .int)]
structure Bid.Ok (b : Bid) : Prop where
  lo : 1 ≤ b.price
  hi : b.price ≤ 1000000000
  len : b.marks.length = 4
  mkb : ∀ m ∈ b.marks, 0 ≤ m ∧ m ≤ 100
inductive Rel where
  | low | range | mean
deriving DecidableEq
def Rel.s : Rel → Str
  | .low => "low" | .range => "range" | .mean => "mean"
inductive Tm where
  | mark (k : Nat) (w : Int)
  | rel (r : Rel) (w : Int)
def Tm.d : Tm → PyData
  | .mark k w => .tuple [.str "mark", .int (k : Int), .int w]
  | .rel r w => .tuple [.str r.s, .int w]
def Tm.Ok : Tm → Prop
  | .mark k w => k < 4 ∧ 1 ≤ w ∧ w ≤ 1000
  | .rel _ w => 1 ≤ w ∧ w ≤ 1000
def formD (f : List Tm) : PyData := .tuple (f.map Tm.d)
def FormOk (f : List Tm) : Prop := f.length ≤ 6 ∧ ∀ t ∈ f, t.Ok
def FieldOk (fl : List Bid) : Prop := fl.length ≤ 130 ∧ ∀ b ∈ fl, b.Ok

theorem s_fin {K : PySem.W.Frag} {W : Wd} {ms : List Addr} {B : Bs} {ρ : List Sl} {σ : L2.St} {H : Hp} {te : TE} {d : PyData} {D : Ends} (h : At K W ms B ρ σ H) (e : Evd K W te ρ d) (k : ∀ v H', At K W ms B [] [] H' → Dp K (cut ms H') v d → D.rt v H') : tRet te D σ H :=
  s_ret h e fun v H' h' _ o => k v H' h'.nil o
section
variable {P : Program} {w : World} {K : PySem.W.Frag} {mg : Str → Option Value} {base : Heap}
/-! ### is_whole -/
def isWhole : PyData → Int → Int → Bool
  | .int n, lo, hi => decide (lo ≤ n) && decide (n ≤ hi)
  | _, _, _ => false
def Gis_whole (ds : List PyData) (d : PyData) : Prop := ∃ t lo hi, ds = [t, .int lo, .int hi] ∧ d = .bool (isWhole t lo hi)
theorem okis_whole (T : Txt K mg) : FnOk P w K mg base CX0 1 T.ais_whole T.dis_whole ["thing", "low", "high"] (spP K Gis_whole) := by
  refine pureOk T.Fis_whole scis_whole (by rintro _ _ ⟨t, lo, hi, rfl, _⟩; rfl) fun cdv A outer s H E hr => ⟨_, (pss_one (ps_ret (pe_and (kB (r := rIsi K) call_isi T.n_isinstance (kpa (kvl 0) (kpa (kty (T := "int") T.n_int) pa_nil))) (pe_and (pe_not (kB (r := rIsi K) call_isi T.n_isinstance (kpa (kvl 0) (kpa (kty (T := "bool") T.n_bool) pa_nil)))) (pe_one (pe_chain op_le op_le (kvl 1) (kvl 0) (kvl 2))))))), ?_⟩
  rintro _ _ ⟨t, lo, hi, rfl, rfl⟩ ms σ H Q h k
  have fin : ∀ {te : TE}, Evd K W0 te _ (.bool (isWhole t lo hi)) → tRet te { nx := fun _ H' => Q .non H', rt := Q } σ H := fun e => s_ret h e fun v H' h' _ o => k v H' h'.nil o
  refine fin ?_
  cases t with
  | int n => exact ev_andV (a := true) (b := decide (lo ≤ n) && decide (n ≤ hi)) (ev_isi (evd_var rfl) kb_int_int) fun _ => ev_andV (a := true) (ev_notV (a := false) (ev_isi (evd_var rfl) kb_int_bool)) fun _ => ev_chain (evd_var rfl) (evd_var rfl) (evd_var rfl)
  | bool n => exact ev_andV (a := true) (b := false) (ev_isi (evd_var rfl) kb_bool_int) fun _ => ev_andV (a := false) (b := false) (ev_notV (a := true) (ev_isi (evd_var rfl) kb_bool_bool)) fun q => nomatch q
  | none => exact ev_andV (a := false) (b := false) (ev_isi (evd_var rfl) kb_NoneType_int) fun q => nomatch q
  | str x => exact ev_andV (a := false) (b := false) (ev_isi (evd_var rfl) kb_str_int) fun q => nomatch q
  | list x => exact ev_andV (a := false) (b := false) (ev_isi (evd_var rfl) kb_list_int) fun q => nomatch q
  | tuple x => exact ev_andV (a := false) (b := false) (ev_isi (evd_var rfl) kb_tuple_int) fun q => nomatch q
  | dict x => exact ev_andV (a := false) (b := false) (ev_isi (evd_var rfl) kb_dict_int) fun q => nomatch q
theorem whole_int {n lo hi : Int} (h1 : lo ≤ n) (h2 : n ≤ hi) : isWhole (.int n) lo hi = true := by
  show (decide (lo ≤ n) && decide (n ≤ hi)) = true
  rw [decide_eq_true h1, decide_eq_true h2]
  rfl
theorem ev_whole {W : Wd} {ρ : List Sl} {n lo hi : Int} {ta tb tc : TE} {E : XK} (a : Evd K W ta ρ (.int n)) (b : Evd K W tb ρ (.int lo)) (c : Evd K W tc ρ (.int hi)) (h1 : lo ≤ n) (h2 : n ≤ hi) : Evd K W (tCall (spP K Gis_whole) [] E (tCons ta (tCons tb (tCons tc tNil)))) ρ (.bool true) :=
  ev_call (ed_cons a (ed_cons b (ed_cons c ed_nil))) ⟨_, lo, hi, rfl, by rw [whole_int h1 h2]⟩
end
end Sc

/-! k69, 2: the defs that judge. -/
namespace Sc
open PySem L2 Fw
open PyProof.Rows (envOfC)
section
variable {P : Program} {w : World} {K : PySem.W.Frag} {mg : Str → Option Value} {base : Heap}
/-! ### is_bid, is_field -/
def Gis_bid (ds : List PyData) (d : PyData) : Prop := ∃ b : Bid, b.Ok ∧ ds = [b.d] ∧ d = .bool true
theorem okis_bid (T : Txt K mg) : FnOk P w K mg base CX0 2 T.ais_bid T.dis_bid ["thing"] (spP K Gis_bid) := by
  refine pureOk T.Fis_bid scis_bid (by rintro _ _ ⟨b, _, rfl, _⟩; rfl) fun cdv A outer s H E hr => ⟨_, (pss_cons (ps_if (PW.pt (pw_or (pt_not (kval (kB (r := rIsi K) call_isi T.n_isinstance (kpa (kvl 0) (kpa (kty (T := "tuple") T.n_tuple) pa_nil))))) (pw_or (pt_cmpR op_ne (kB (r := rLenQ K) call_len_seq T.n_len (kpa (kvl 0) pa_nil)) pe_int (nomark _)) (pw_or (pt_not (kval (kB (r := rIsi K) call_isi T.n_isinstance (kpa (pe_ix (r := rIxT K) ix_tup (kvl 0) pe_int (fun _ _ => rfl)) (kpa (kty (T := "str") T.n_str) pa_nil))))) (pw_or1 (pt_cmpR op_ne (pe_ix (r := rIxT K) ix_tup (kvl 0) pe_int (fun _ _ => rfl)) pe_str (nomark _))))))) (pss_one (ps_ret pe_bl)) pss_nil)
      (pss_cons (ksl 1 scis_bid.nd (pe_ix (r := rIxT K) ix_tup (kvl 0) pe_int (fun _ _ => rfl)))
      (pss_cons (ps_if (PW.pt (pw_or (pt_not (kval (kB (r := rIsi K) call_isi T.n_isinstance (kpa (kvl 1) (kpa (kty (T := "tuple") T.n_tuple) pa_nil))))) (pw_or (pt_cmpR op_ne (kB (r := rLenQ K) call_len_seq T.n_len (kpa (kvl 1) pa_nil)) (kgc' T.c_MARK_COUNT) (nomark _)) (pw_or1 (pt_not (kval (kcall (okis_whole T) (hr.mono (by decide)) T.g_is_whole T.k_is_whole T.b_is_whole (kpa (pe_ix (r := rIxT K) ix_tup (kvl 0) pe_int (fun _ _ => rfl)) (kpa pe_int (kpa (kgc' T.c_MOST_PRICE) pa_nil)))))))))) (pss_one (ps_ret pe_bl)) pss_nil)
      (pss_one (ps_ret (kB (r := rAll K) (cr_all rfl) T.n_all (kpa (pe_lc (own := [("mark", 2)]) (g := (gName 2)) (tt := tYes) (by rfl) scis_bid.nd (show PI _ _ _ (iTup K _) from pi_tup (kvl 1)) (blkOk_by (by kernel_rfl)) (fun _ _ _ _ _ => (kgl 2 scis_bid.nd)) (fun _ _ _ _ _ => pts_nil) (fun _ _ _ _ _ => (kcall (okis_whole T) (hr.mono (by decide)) T.g_is_whole T.k_is_whole T.b_is_whole (kpa (kvl 2) (kpa pe_int (kpa (kgc' T.c_MOST_MARK) pa_nil)))))) pa_nil))))))), ?_⟩
  rintro _ _ ⟨b, ob, rfl, rfl⟩ ms σ H Q h k
  refine q_when (b := false) h ?_ (fun q => nomatch q) fun _ H1 h1 _ => ?_
  · exact et_or (a := false) (et_not (a := true) (et_B (ev_isi (evd_var rfl) kb_tuple_tuple))) fun _ => et_or (a := false) (et_eq (et_test (ev_neI (ev_lenT (evd_var rfl)) ev_int)) rfl) fun _ =>
      et_or (a := false) (et_not (a := true) (et_B (ev_isi (ev_ixT (evd_var rfl) ev_int rfl) kb_str_str))) fun _ => et_eq (et_test (ev_neS (ev_ixT (evd_var rfl) ev_int rfl) ev_str)) (by simp)
  refine q_asg h1 (ev_ixT (d := .tuple (b.marks.map .int)) (evd_var rfl) ev_int rfl) fun σ2 H2 h2 _ => ?_
  refine q_when (b := false) h2 ?_ (fun q => nomatch q) fun _ H3 h3 _ => ?_
  · exact et_or (a := false) (et_not (a := true) (et_B (ev_isi (evd_var rfl) kb_tuple_tuple))) fun _ => et_or (a := false) (et_eq (et_test (ev_neI (ev_lenT (evd_var rfl)) ev_int)) (by rw [List.length_map, ob.len]; rfl)) fun _ =>
      et_not (a := true) (et_B (ev_whole (ev_ixT (evd_var rfl) ev_int rfl) ev_int ev_int ob.lo ob.hi))
  refine s_fin h3 (evd_eq (ev_all (ev_lc0 (enc := .int) (f := fun _ => .bool true) (src_tup (evd_var rfl)) (by rw [ob.len]; decide) fun m hm => ev_whole (evd_var rfl) ev_int ev_int (ob.mkb m hm).1 (ob.mkb m hm).2) (bs := b.marks.map fun _ => true) (by simp)) (by simp)) k
def Gis_field (ds : List PyData) (d : PyData) : Prop := ∃ (q : Bool) (fl : List Bid), FieldOk fl ∧ ds = [sq q (fl.map Bid.d)] ∧ d = .bool true
theorem okis_field (T : Txt K mg) : FnOk P w K mg base CX0 3 T.ais_field T.dis_field ["thing"] (spP K Gis_field) := by
  refine pureOk T.Fis_field scis_field (by rintro _ _ ⟨b, fl, _, rfl, _⟩; rfl) fun cdv A outer s H E hr => ⟨_, (pss_one (ps_ret (pe_and (kB (r := rIsiT K) call_isiT T.n_isinstance (kpa (kvl 0) (kpa (pe_tup (kpa (kty (T := "list") T.n_list) (kpa (kty (T := "tuple") T.n_tuple) pa_nil))) pa_nil))) (pe_and (pe_cmpR op_le (kB (r := rLenQ K) call_len_seq T.n_len (kpa (kvl 0) pa_nil)) (kgc' T.c_MOST_BIDS) (nomark _)) (pe_one (kB (r := rAll K) (cr_all rfl) T.n_all (kpa (pe_lc (own := [("bid", 1)]) (g := (gName 1)) (tt := tYes) (by rfl) scis_field.nd (show PI _ _ _ (iSeq K _) from pi_seq (kvl 0)) (blkOk_by (by kernel_rfl)) (fun _ _ _ _ _ => (kgl 1 scis_field.nd)) (fun _ _ _ _ _ => pts_nil) (fun _ _ _ _ _ => (kcall (okis_bid T) (hr.mono (by decide)) T.g_is_bid T.k_is_bid T.b_is_bid (kpa (kvl 1) pa_nil)))) pa_nil))))))), ?_⟩
  rintro _ _ ⟨q, fl, ⟨ol, ob⟩, rfl, rfl⟩ ms σ H Q h k
  refine s_fin h ?_ k
  refine ev_andV (a := true) (b := true) (ev_isiLT (evd_var rfl)) fun _ => ev_andV (a := true) (b := true) (evd_eq (ev_le (ev_lenS (evd_var rfl)) ev_int) ?_) fun _ => ?_
  · rw [List.length_map]
    congr 1
    exact decide_eq_true (by omega)
  · exact evd_eq (ev_all (ev_lc0 (enc := Bid.d) (f := fun _ => .bool true) (src_seq (evd_var rfl)) (by omega) fun b hb => ev_call (ed_cons (evd_var rfl) ed_nil) ⟨b, ob b hb, rfl, rfl⟩) (bs := fl.map fun _ => true) (by simp)) (by simp)
def Gneed_field (ds : List PyData) (d : PyData) : Prop := ∃ (q : Bool) (fl : List Bid), FieldOk fl ∧ ds = [sq q (fl.map Bid.d)] ∧ d = .none
theorem okneed_field (T : Txt K mg) : FnOk P w K mg base CX0 4 T.aneed_field T.dneed_field ["field"] (spP K Gneed_field) := by
  refine pureOk T.Fneed_field scneed_field (by rintro _ _ ⟨b, fl, _, rfl, _⟩; rfl) fun cdv A outer s H E hr => ⟨_, (pss_one (ps_if (pt_not (kval (kcall (okis_field T) (hr.mono (by decide)) T.g_is_field T.k_is_field T.b_is_field (kpa (kvl 0) pa_nil)))) (pss_one ps_never) pss_nil)), ?_⟩
  rintro _ _ ⟨q, fl, o, rfl, rfl⟩ ms σ H Q h k
  exact s_if (b := false) h (et_not (a := true) (et_B (ev_call (ed_cons (evd_var rfl) ed_nil) ⟨q, fl, o, rfl, rfl⟩))) (fun q => nomatch q) fun _ H1 h1 _ => k .non H1 h1.nil .non
def Gneed_index (ds : List PyData) (d : PyData) : Prop := ∃ (q : Bool) (fl : List Bid) (i : Nat), i < fl.length ∧ ds = [sq q (fl.map Bid.d), .int (i : Int)] ∧ d = .none
theorem okneed_index (T : Txt K mg) : FnOk P w K mg base CX0 2 T.aneed_index T.dneed_index ["field", "index"] (spP K Gneed_index) := by
  refine pureOk T.Fneed_index scneed_index (by rintro _ _ ⟨b, fl, i, _, rfl, _⟩; rfl) fun cdv A outer s H E hr => ⟨_, (pss_one (ps_if (pt_not (kval (kcall (okis_whole T) (hr.mono (by decide)) T.g_is_whole T.k_is_whole T.b_is_whole (kpa (kvl 1) (kpa pe_int (kpa (pe_op op_sub (kB (r := rLenQ K) call_len_seq T.n_len (kpa (kvl 0) pa_nil)) pe_int) pa_nil)))))) (pss_one ps_never) pss_nil)), ?_⟩
  rintro _ _ ⟨q, fl, i, o, rfl, rfl⟩ ms σ H Q h k
  exact s_if (b := false) h (et_not (a := true) (et_B (ev_whole (evd_var rfl) ev_int (ev_sub (ev_lenS (evd_var rfl)) ev_int) (by omega) (by rw [List.length_map]; omega)))) (fun q => nomatch q) fun _ H1 h1 _ => k .non H1 h1.nil .non
def Gprices_of (ds : List PyData) (d : PyData) : Prop := ∃ (q : Bool) (fl : List Bid), fl.length ≤ 130 ∧ ds = [sq q (fl.map Bid.d)] ∧ d = .list (fl.map fun b => .int b.price)
theorem okprices_of (T : Txt K mg) : FnOk P w K mg base CX0 1 T.aprices_of T.dprices_of ["field"] (spP K Gprices_of) := by
  refine pureOk T.Fprices_of scprices_of (by rintro _ _ ⟨b, fl, _, rfl, _⟩; rfl) fun cdv A outer s H E hr => ⟨_, (pss_one (ps_ret (pe_lc (own := [("bid", 1)]) (g := (gName 1)) (tt := tYes) (by rfl) scprices_of.nd (show PI _ _ _ (iSeq K _) from pi_seq (kvl 0)) (blkOk_by (by kernel_rfl)) (fun _ _ _ _ _ => (kgl 1 scprices_of.nd)) (fun _ _ _ _ _ => pts_nil) (fun _ _ _ _ _ => (pe_ix (r := rIxT K) ix_tup (kvl 1) pe_int (fun _ _ => rfl)))))), ?_⟩
  rintro _ _ ⟨q, fl, o, rfl, rfl⟩ ms σ H Q h k
  exact s_fin h (ev_lc0 (enc := Bid.d) (f := fun b => .int b.price) (src_seq (evd_var rfl)) (by omega) fun b hb => ev_ixT (evd_var rfl) ev_int rfl) k
/-! ### is_term, is_formula -/
def Gis_term (ds : List PyData) (d : PyData) : Prop := ∃ t : Tm, t.Ok ∧ ds = [t.d] ∧ d = .bool true
theorem rel_in (r : Rel) : inV (V.str r.s) [V.str "low", V.str "range", V.str "mean"] = true := by cases r <;> decide +kernel
theorem rel_ne (r : Rel) : decide (r.s = "mark") = false := by cases r <;> decide +kernel
theorem ev_inRel {W : Wd} {ρ : List Sl} {te : TE} (T : Txt K mg) (r : Rel) (h : Evd K W te ρ (.str r.s)) : Evd K W (tOp (rIn K false) te (tC (.ref T.aRELATIVES))) ρ (.bool true) := ev_op h ev_c fun ms H x y _ hx hy Q q => by
  cases hx
  subst hy
  have e := T.e_RELATIVES H
  cases e with
  | tup hs ha =>
    have e2 := dpa_strs (xs := ["low", "range", "mean"]) ha
    rw [e2] at hs
    refine ⟨_, _, rfl, .inr hs, rfl, rfl, ?_⟩
    show Q (.bl (inV (V.str r.s) [V.str "low", V.str "range", V.str "mean"])) H
    rw [rel_in]
    exact q _ H (Same.refl H) (.bl _)
theorem okis_term (T : Txt K mg) : FnOk P w K mg base CX0 2 T.ais_term T.dis_term ["thing"] (spP K Gis_term) := by
  refine pureOk T.Fis_term scis_term (by rintro _ _ ⟨b, _, rfl, _⟩; rfl) fun cdv A outer s H E hr => ⟨_, (pss_cons (ps_if (PW.pt (pw_or (pt_not (kval (kB (r := rIsi K) call_isi T.n_isinstance (kpa (kvl 0) (kpa (kty (T := "tuple") T.n_tuple) pa_nil))))) (pw_or (pt_cmpR op_lt (kB (r := rLenQ K) call_len_seq T.n_len (kpa (kvl 0) pa_nil)) pe_int (nomark _)) (pw_or1 (pt_not (kval (kB (r := rIsi K) call_isi T.n_isinstance (kpa (pe_ix (r := rIxT K) ix_tup (kvl 0) pe_int (fun _ _ => rfl)) (kpa (kty (T := "str") T.n_str) pa_nil))))))))) (pss_one (ps_ret pe_bl)) pss_nil)
      (pss_cons (ps_if (pt_cmpR op_eq (pe_ix (r := rIxT K) ix_tup (kvl 0) pe_int (fun _ _ => rfl)) pe_str (nomark _)) (pss_one (ps_ret (pe_and (pe_cmpR op_eq (kB (r := rLenQ K) call_len_seq T.n_len (kpa (kvl 0) pa_nil)) pe_int (nomark _)) (pe_and (kcall (okis_whole T) (hr.mono (by decide)) T.g_is_whole T.k_is_whole T.b_is_whole (kpa (pe_ix (r := rIxT K) ix_tup (kvl 0) pe_int (fun _ _ => rfl)) (kpa pe_int (kpa (pe_op op_sub (kgc' T.c_MARK_COUNT) pe_int) pa_nil)))) (pe_one (kcall (okis_whole T) (hr.mono (by decide)) T.g_is_whole T.k_is_whole T.b_is_whole (kpa (pe_ix (r := rIxT K) ix_tup (kvl 0) pe_int (fun _ _ => rfl)) (kpa pe_int (kpa (kgc' T.c_MOST_WEIGHT) pa_nil))))))))) pss_nil)
      (pss_one (ps_ret (pe_and (pe_cmpR (r := rIn K false) op_in_seq (pe_ix (r := rIxT K) ix_tup (kvl 0) pe_int (fun _ _ => rfl)) (kgc' T.c_RELATIVES) (by rfl)) (pe_and (pe_cmpR op_eq (kB (r := rLenQ K) call_len_seq T.n_len (kpa (kvl 0) pa_nil)) pe_int (nomark _)) (pe_one (kcall (okis_whole T) (hr.mono (by decide)) T.g_is_whole T.k_is_whole T.b_is_whole (kpa (pe_ix (r := rIxT K) ix_tup (kvl 0) pe_int (fun _ _ => rfl)) (kpa pe_int (kpa (kgc' T.c_MOST_WEIGHT) pa_nil))))))))))), ?_⟩
  rintro _ _ ⟨t, ot, rfl, rfl⟩ ms σ H Q h k
  cases t with
  | mark i x =>
    refine q_when (b := false) h ?_ (fun q => nomatch q) fun _ H1 h1 _ => ?_
    · exact et_or (a := false) (et_not (a := true) (et_B (ev_isi (evd_var rfl) kb_tuple_tuple))) fun _ => et_or (a := false) (et_eq (et_test (ev_lt (ev_lenT (evd_var rfl)) ev_int)) rfl) fun _ =>
        et_not (a := true) (et_B (ev_isi (ev_ixT (evd_var rfl) ev_int rfl) kb_str_str))
    refine q_when (b := true) h1 (et_eq (et_test (ev_eqS (ev_ixT (evd_var rfl) ev_int rfl) ev_str)) (by simp)) (fun _ H2 h2 _ => ?_) (fun q => nomatch q)
    refine s_fin h2 ?_ k
    have o2 := ot.1
    exact ev_andV (a := true) (b := true) (evd_eq (ev_eqI (ev_lenT (evd_var rfl)) ev_int) rfl) fun _ => ev_andV (a := true) (b := true) (ev_whole (ev_ixT (evd_var rfl) ev_int rfl) ev_int (ev_sub ev_int ev_int) (by omega) (by omega)) fun _ =>
      ev_whole (ev_ixT (evd_var rfl) ev_int rfl) ev_int ev_int ot.2.1 ot.2.2
  | rel r x =>
    refine q_when (b := false) h ?_ (fun q => nomatch q) fun _ H1 h1 _ => ?_
    · exact et_or (a := false) (et_not (a := true) (et_B (ev_isi (evd_var rfl) kb_tuple_tuple))) fun _ => et_or (a := false) (et_eq (et_test (ev_lt (ev_lenT (evd_var rfl)) ev_int)) rfl) fun _ =>
        et_not (a := true) (et_B (ev_isi (ev_ixT (evd_var rfl) ev_int rfl) kb_str_str))
    refine q_when (b := false) h1 (et_eq (et_test (ev_eqS (ev_ixT (evd_var rfl) ev_int rfl) ev_str)) (rel_ne r)) (fun q => nomatch q) fun _ H2 h2 _ => ?_
    refine s_fin h2 ?_ k
    exact ev_andV (a := true) (b := true) (ev_inRel T r (ev_ixT (evd_var rfl) ev_int rfl)) fun _ => ev_andV (a := true) (b := true) (evd_eq (ev_eqI (ev_lenT (evd_var rfl)) ev_int) rfl) fun _ => ev_whole (ev_ixT (evd_var rfl) ev_int rfl) ev_int ev_int ot.1 ot.2
def Gis_formula (ds : List PyData) (d : PyData) : Prop := ∃ f : List Tm, FormOk f ∧ ds = [formD f] ∧ d = .bool true
theorem okis_formula (T : Txt K mg) : FnOk P w K mg base CX0 3 T.ais_formula T.dis_formula ["thing"] (spP K Gis_formula) := by
  refine pureOk T.Fis_formula scis_formula (by rintro _ _ ⟨f, _, rfl, _⟩; rfl) fun cdv A outer s H E hr => ⟨_, (pss_one (ps_ret (pe_and (kB (r := rIsi K) call_isi T.n_isinstance (kpa (kvl 0) (kpa (kty (T := "tuple") T.n_tuple) pa_nil))) (pe_and (pe_cmpR op_le (kB (r := rLenQ K) call_len_seq T.n_len (kpa (kvl 0) pa_nil)) (kgc' T.c_MOST_TERMS) (nomark _)) (pe_one (kB (r := rAll K) (cr_all rfl) T.n_all (kpa (pe_lc (own := [("term", 1)]) (g := (gName 1)) (tt := tYes) (by rfl) scis_formula.nd (show PI _ _ _ (iTup K _) from pi_tup (kvl 0)) (blkOk_by (by kernel_rfl)) (fun _ _ _ _ _ => (kgl 1 scis_formula.nd)) (fun _ _ _ _ _ => pts_nil) (fun _ _ _ _ _ => (kcall (okis_term T) (hr.mono (by decide)) T.g_is_term T.k_is_term T.b_is_term (kpa (kvl 1) pa_nil)))) pa_nil))))))), ?_⟩
  rintro _ _ ⟨f, ⟨ol, ot⟩, rfl, rfl⟩ ms σ H Q h k
  refine s_fin h ?_ k
  refine ev_andV (a := true) (b := true) (ev_isi (evd_var rfl) kb_tuple_tuple) fun _ => ev_andV (a := true) (b := true) (evd_eq (ev_le (ev_lenT (evd_var rfl)) ev_int) ?_) fun _ => ?_
  · rw [List.length_map]
    congr 1
    exact decide_eq_true (by omega)
  · exact evd_eq (ev_all (ev_lc0 (enc := Tm.d) (f := fun _ => .bool true) (src_tup (evd_var rfl)) (by omega) fun t ht => ev_call (ed_cons (evd_var rfl) ed_nil) ⟨t, ot t ht, rfl, rfl⟩) (bs := f.map fun _ => true) (by simp)) (by simp)
def Gneed_formula (ds : List PyData) (d : PyData) : Prop := ∃ f : List Tm, FormOk f ∧ ds = [formD f] ∧ d = .none
theorem okneed_formula (T : Txt K mg) : FnOk P w K mg base CX0 4 T.aneed_formula T.dneed_formula ["formula"] (spP K Gneed_formula) := by
  refine pureOk T.Fneed_formula scneed_formula (by rintro _ _ ⟨f, _, rfl, _⟩; rfl) fun cdv A outer s H E hr => ⟨_, (pss_one (ps_if (pt_not (kval (kcall (okis_formula T) (hr.mono (by decide)) T.g_is_formula T.k_is_formula T.b_is_formula (kpa (kvl 0) pa_nil)))) (pss_one ps_never) pss_nil)), ?_⟩
  rintro _ _ ⟨f, o, rfl, rfl⟩ ms σ H Q h k
  exact s_if (b := false) h (et_not (a := true) (et_B (ev_call (ed_cons (evd_var rfl) ed_nil) ⟨f, o, rfl, rfl⟩))) (fun q => nomatch q) fun _ H1 h1 _ => k .non H1 h1.nil .non
end
end Sc

/-! k69, 3: weights and scores. -/
namespace Sc
open PySem L2 Fw
open PyProof.Rows (envOfC)
/-! ### what they compute -/
def mwStep (s : List Int) : Tm → List Int
  | .mark k x => s.set k (s[k]?.getD 0 + x)
  | .rel _ _ => s
def mw (f : List Tm) : List Int := f.foldl mwStep [0, 0, 0, 0]
theorem mwStep_len (s : List Int) (t : Tm) : (mwStep s t).length = s.length := by
  cases t with
  | mark k x => exact List.length_set
  | rel r x => rfl
theorem mwFold_len : ∀ (f : List Tm) (s : List Int), (f.foldl mwStep s).length = s.length
  | [], s => rfl
  | t :: f, s => by rw [List.foldl_cons, mwFold_len f, mwStep_len]
theorem mw_len (f : List Tm) : (mw f).length = 4 := mwFold_len f _
theorem mw_snoc (f : List Tm) (t : Tm) : mw (f ++ [t]) = mwStep (mw f) t := by
  unfold mw
  rw [List.foldl_append]
  rfl
def isRel (r : Rel) : Tm → Bool
  | .mark _ _ => false
  | .rel q _ => decide (q = r)
def Tm.w : Tm → Int
  | .mark _ x => x
  | .rel _ x => x
def rs (r : Rel) (f : List Tm) : Int := ((f.filter (isRel r)).map Tm.w).sum
/-- the sum of the mark terms -/
def mp (f : List Tm) (b : Bid) : Int := (List.zipWith (fun a b => a * b) (mw f) b.marks).sum
theorem mark_s (r : Rel) : decide (("mark" : Str) = r.s) = false := by cases r <;> decide +kernel
theorem rel_s (q r : Rel) : decide (q.s = r.s) = decide (q = r) := by cases q <;> cases r <;> decide +kernel
section
variable {P : Program} {w : World} {K : PySem.W.Frag} {mg : Str → Option Value} {base : Heap}
/-! ### mark_weights -/
def Gmark_weights (ds : List PyData) (d : PyData) : Prop := ∃ f : List Tm, FormOk f ∧ ds = [formD f] ∧ d = .tuple ((mw f).map .int)
theorem okmark_weights (T : Txt K mg) : FnOk P w K mg base CX0 5 T.amark_weights T.dmark_weights ["formula"] (spP K Gmark_weights) := by
  refine pureOk T.Fmark_weights scmark_weights (by rintro _ _ ⟨f, _, rfl, _⟩; rfl) fun cdv A outer s H E hr => ⟨_, (pss_cons (kexpr (kcall (okneed_formula T) (hr.mono (by decide)) T.g_need_formula T.k_need_formula T.b_need_formula (kpa (kvl 0) pa_nil)))
      (pss_cons (ksl 1 scmark_weights.nd (pe_op op_rep (pe_lst (kpa pe_int pa_nil)) (kgc' T.c_MARK_COUNT)))
      (pss_cons (ps_for PassesOwn.never rfl (show PI _ _ _ (iTup K _) from pi_tup (kvl 0)) (kgl 2 scmark_weights.nd) (pss_one (ps_if (pt_cmpR op_eq (pe_ix (r := rIxT K) ix_tup (kvl 2) pe_int (fun _ _ => rfl)) pe_str (nomark _)) (pss_one (ps_augS (kvl 1) (pe_ix (r := rIxT K) ix_tup (kvl 2) pe_int (fun _ _ => rfl)) pget_list (pe_ix (r := rIxT K) ix_tup (kvl 2) pe_int (fun _ _ => rfl)) ip_add set_list)) pss_nil)))
      (pss_one (ps_ret (kTy (r := rTupOf K) call_tuple_of T.n_tuple (kpa (kvl 1) pa_nil))))))), ?_⟩
  rintro _ _ ⟨f, o, rfl, rfl⟩ ms σ H Q h k
  refine q_drop h (ev_call (ed_cons (evd_var rfl) ed_nil) ⟨f, o, rfl, rfl⟩) fun H1 h1 _ => ?_
  -- sums = [0] * MARK_COUNT
  refine q_own' h1 (ef_rep (n := 4) (ed_cons ev_int ed_nil) ev_int (by decide)) fun l ds σ2 H2 e2 h2 o2 lm lb => ?_
  subst e2
  refine s_for (D := { nx := _, rt := _ }) (R := fun _ => [.dat (formD f), .raw (.ref l), .emp]) (S := fun i => [.dat (formD f), .raw (.ref l), .dat (match f[i]? with | some t => t.d | none => .none)])
    (X := fun i H' => Own K W0 (l :: ms) ⟨H, H⟩ l ((mw (f.take i)).map .int) H') h2 (src_tup (evd_var rfl)) (Le.refl _) (fun H3 h3 x3 => o2.go h2.sub x3) (fun i H H' s _ o => o.same s) (fun i d hd => ⟨[2], ?_⟩) (fun Hb i d σ3 H3 hd h3 o3 => ?_) (fun σ3 H3 h3 o3 => ?_) (fun i H H' s _ o => o.same s)
  · rw [List.getElem?_map] at hd
    cases e : f[i]? with
    | none => rw [e] at hd; cases hd
    | some t =>
      rw [e] at hd
      cases hd
      exact tg_name
  · rw [List.getElem?_map] at hd
    cases e : f[i]? with
    | none => rw [e] at hd; cases hd
    | some t =>
      rw [e] at hd h3
      cases hd
      have et := o.2 t (List.mem_of_getElem? e)
      have o3' := o3.re Hb
      have nxt : mw (f.take (i + 1)) = mwStep (mw (f.take i)) t := by rw [take_more e, mw_snoc]
      cases t with
      | mark kk x =>
        refine s_if (b := true) h3 (et_eq (et_test (ev_eqS (ev_ixT (evd_var rfl) ev_int rfl) ev_str)) (by simp)) (fun _ H4 h4 x4 => ?_) (fun q => nomatch q)
        refine s_augL h4 (o3'.go h3.sub x4) rfl (by rw [mw_len]; exact et.1) (by rw [mw_len]; decide) (ev_ixT (evd_var rfl) ev_int rfl) (ev_ixT (evd_var rfl) ev_int rfl) fun H5 h5 o5 => ⟨h5.le (.same (.same (.emp .nil))), ?_⟩
        rw [nxt]
        exact o5.un
      | rel r x =>
        refine s_if (b := false) h3 (et_eq (et_test (ev_eqS (ev_ixT (evd_var rfl) ev_int rfl) ev_str)) (rel_ne r)) (fun q => nomatch q) fun _ H4 h4 x4 => ⟨h4.le (.same (.same (.emp .nil))), ?_⟩
        rw [nxt]
        exact (o3'.go h3.sub x4).un
  · rw [List.length_map, List.take_length] at o3
    have h4 := h3.lend o3 lm lb (i := 1) rfl
    exact s_fin h4 (ev_tupL (evd_var rfl)) k
/-! ### relative_weights -/
def Grelative_weights (ds : List PyData) (d : PyData) : Prop := ∃ f : List Tm, FormOk f ∧ ds = [formD f] ∧ d = .tuple [.int (rs .low f), .int (rs .range f), .int (rs .mean f)]
theorem okrelative_weights (T : Txt K mg) : FnOk P w K mg base CX0 5 T.arelative_weights T.drelative_weights ["formula"] (spP K Grelative_weights) := by
  refine pureOk T.Frelative_weights screlative_weights (by rintro _ _ ⟨f, _, rfl, _⟩; rfl) fun cdv A outer s H E hr => ⟨_, (pss_cons (kexpr (kcall (okneed_formula T) (hr.mono (by decide)) T.g_need_formula T.k_need_formula T.b_need_formula (kpa (kvc 0) pa_nil)))
      (pss_one (ps_ret (kTy (r := rTupOf K) call_tuple_of T.n_tuple (kpa (pe_lc (own := [("word", 2)]) (g := (gName 2)) (tt := tYes) (by rfl) screlative_weights.nd (show PI _ _ _ (iTup K _) from pi_tup (kgc' T.c_RELATIVES)) (blkOk_by (by kernel_rfl)) (fun _ _ _ _ _ => (kgc 2 screlative_weights.nd)) (fun _ _ _ _ _ => pts_nil) (fun _ _ _ _ _ => (kB (r := rSum K) (cr_sum rfl) T.n_sum (kpa (pe_lc (own := [("term", 1)]) (g := (gName 1)) (by rfl) screlative_weights.nd (show PI _ _ _ (iTup K _) from pi_tup (kvc 0)) (blkOk_by (by kernel_rfl)) (fun _ _ _ _ _ => (kgl 1 screlative_weights.nd)) (fun _ _ _ _ _ => (pts_one (pt_cmpR op_eq (pe_ix (r := rIxT K) ix_tup (kvl 1) pe_int (fun _ _ => rfl)) (kvc 2) (nomark _)))) (fun _ _ _ _ _ => (pe_ix (r := rIxT K) ix_tup (kvl 1) pe_int (fun _ _ => rfl)))) pa_nil)))) pa_nil))))), ?_⟩
  rintro _ _ ⟨f, o, rfl, rfl⟩ ms σ H Q h k
  refine q_drop h (ev_call (ed_cons (evd_var rfl) ed_nil) ⟨f, o, rfl, rfl⟩) fun H1 h1 _ => ?_
  refine s_fin h1 (evd_eq (ev_tupL (ev_lc0 (xs := [Rel.low, Rel.range, Rel.mean]) (enc := fun r => .str r.s) (f := fun r => .int (rs r f)) (src_tup (ev_cd fun H => T.e_RELATIVES H)) (by decide) fun r _ => ?_)) rfl) k
  refine ev_sum (ev_lc1 (xs := f) (enc := Tm.d) (f := fun t => .int t.w) (p := isRel r) (src_tup (evd_var rfl)) (by have := o.1; omega) (fun t _ => ?_) fun t _ ht => ?_) (ns := (f.filter (isRel r)).map Tm.w) (by rw [List.map_map]; rfl)
  · cases t with
    | mark kk x => exact et_eq (et_test (ev_eqS (ev_ixT (evd_var rfl) ev_int rfl) (evd_var rfl))) (mark_s r)
    | rel q x => exact et_eq (et_test (ev_eqS (ev_ixT (evd_var rfl) ev_int rfl) (evd_var rfl))) (rel_s q r)
  · cases t with
    | mark kk x => cases ht
    | rel q x => exact ev_ixT (evd_var rfl) ev_int rfl
end
end Sc

/-! k69: the mathematics. -/
namespace Sc
/-! ### bounds by bits -/
def Nb (n : Nat) (x : Int) : Prop := x.natAbs < 2 ^ n
theorem Nb.mono {a b : Nat} {x : Int} (h : Nb a x) (l : a ≤ b) : Nb b x := Nat.lt_of_lt_of_le h (Nat.pow_le_pow_right (by decide) l)
theorem Nb.mul {a b : Nat} {x y : Int} (h : Nb a x) (g : Nb b y) : Nb (a + b) (x * y) := by
  unfold Nb
  rw [Int.natAbs_mul, Nat.pow_add]
  exact Nat.mul_lt_mul'' h g
theorem Nb.add {a : Nat} {x y : Int} (h : Nb a x) (g : Nb a y) : Nb (a + 1) (x + y) := by
  unfold Nb at *
  have := Int.natAbs_add_le x y
  rw [Nat.pow_succ]
  omega
theorem Nb.sub {a : Nat} {x y : Int} (h : Nb a x) (g : Nb a y) : Nb (a + 1) (x - y) := by
  unfold Nb at *
  rw [Nat.pow_succ]
  omega
theorem Nb.of {n : Nat} {x : Int} (h0 : 0 ≤ x) (h : x < ((2 ^ n : Nat) : Int)) : Nb n x := by
  unfold Nb
  omega
theorem cmw {x y : Int} (h : Nb 1000 x) (g : Nb 1000 y) : L2.CMulW x y := L2.wide_mul (a := 1000) (b := 1000) h g (by decide) (by decide) (by decide)
theorem cdw {x y : Int} (h : 0 < y) (g : Nb 1000 y) : L2.CDivW x y := L2.wide_div (b := 1000) h g (by decide) (by decide)
/-! ### least, greatest, sums -/
def minL : List Int → Int
  | [] => 0
  | [x] => x
  | x :: y :: r => min x (minL (y :: r))
def maxL : List Int → Int
  | [] => 0
  | [x] => x
  | x :: y :: r => max x (maxL (y :: r))
theorem minL_mem : ∀ {l : List Int}, l ≠ [] → minL l ∈ l
  | [], h => absurd rfl h
  | [x], _ => List.mem_cons_self
  | x :: y :: r, _ => by
    have ih := minL_mem (l := y :: r) (by simp)
    show min x (minL (y :: r)) ∈ _
    rcases Int.le_total x (minL (y :: r)) with h | h
    · rw [Int.min_eq_left h]; exact List.mem_cons_self
    · rw [Int.min_eq_right h]; exact List.mem_cons_of_mem _ ih
theorem minL_le : ∀ {l : List Int} {z : Int}, z ∈ l → minL l ≤ z
  | [x], z, h => by rw [List.mem_singleton.mp h]; exact Int.le_refl _
  | x :: y :: r, z, h => by
    show min x (minL (y :: r)) ≤ z
    rcases List.mem_cons.mp h with e | e
    · rw [e]; exact Int.min_le_left _ _
    · exact Int.le_trans (Int.min_le_right _ _) (minL_le e)
theorem maxL_mem : ∀ {l : List Int}, l ≠ [] → maxL l ∈ l
  | [], h => absurd rfl h
  | [x], _ => List.mem_cons_self
  | x :: y :: r, _ => by
    have ih := maxL_mem (l := y :: r) (by simp)
    show max x (maxL (y :: r)) ∈ _
    rcases Int.le_total x (maxL (y :: r)) with h | h
    · rw [Int.max_eq_right h]; exact List.mem_cons_of_mem _ ih
    · rw [Int.max_eq_left h]; exact List.mem_cons_self
theorem maxL_le : ∀ {l : List Int} {z : Int}, z ∈ l → z ≤ maxL l
  | [x], z, h => by rw [List.mem_singleton.mp h]; exact Int.le_refl _
  | x :: y :: r, z, h => by
    show z ≤ max x (maxL (y :: r))
    rcases List.mem_cons.mp h with e | e
    · rw [e]; exact Int.le_max_left _ _
    · exact Int.le_trans (maxL_le e) (Int.le_max_right _ _)
theorem sum_bounds {M : Int} (hM : 0 ≤ M) : ∀ {l : List Int}, (∀ z ∈ l, 0 ≤ z ∧ z ≤ M) → 0 ≤ l.sum ∧ l.sum ≤ M * (l.length : Int)
  | [], _ => by simp
  | x :: l, h => by
    have ih := sum_bounds hM (l := l) fun z hz => h z (List.mem_cons_of_mem _ hz)
    have hx := h x List.mem_cons_self
    rw [List.sum_cons, List.length_cons]
    have e : M * ((l.length + 1 : Nat) : Int) = M * (l.length : Int) + M := by
      rw [Int.natCast_add, Int.mul_add]
      simp
    rw [e]
    omega
/-! ### fractions in lowest terms -/
def red (a b : Int) : Int × Int := (a / ((Nat.gcd a.natAbs b.natAbs : Nat) : Int), b / ((Nat.gcd a.natAbs b.natAbs : Nat) : Int))
theorem red_nat {a b c d : Nat} (hb : 0 < b) (hd : 0 < d) (h : a * d = c * b) : a / Nat.gcd a b = c / Nat.gcd c d ∧ b / Nat.gcd a b = d / Nat.gcd c d := by
  have g1 : 0 < Nat.gcd a b := Nat.gcd_pos_of_pos_right _ hb
  have g2 : 0 < Nat.gcd c d := Nat.gcd_pos_of_pos_right _ hd
  have c1 : Nat.Coprime (a / Nat.gcd a b) (b / Nat.gcd a b) := Nat.coprime_div_gcd_div_gcd g1
  have c2 : Nat.Coprime (c / Nat.gcd c d) (d / Nat.gcd c d) := Nat.coprime_div_gcd_div_gcd g2
  have ea : Nat.gcd a b * (a / Nat.gcd a b) = a := Nat.mul_div_cancel' (Nat.gcd_dvd_left _ _)
  have eb : Nat.gcd a b * (b / Nat.gcd a b) = b := Nat.mul_div_cancel' (Nat.gcd_dvd_right _ _)
  have ec : Nat.gcd c d * (c / Nat.gcd c d) = c := Nat.mul_div_cancel' (Nat.gcd_dvd_left _ _)
  have ed : Nat.gcd c d * (d / Nat.gcd c d) = d := Nat.mul_div_cancel' (Nat.gcd_dvd_right _ _)
  generalize Nat.gcd a b = g at *
  generalize Nat.gcd c d = k at *
  generalize a / g = a' at *
  generalize b / g = b' at *
  generalize c / k = c' at *
  generalize d / k = d' at *
  subst ea eb ec ed
  have e : a' * d' = c' * b' := by
    have h2 : (g * k) * (a' * d') = (g * k) * (c' * b') := by
      have x1 : g * a' * (k * d') = (g * k) * (a' * d') := by simp only [Nat.mul_comm, Nat.mul_left_comm, Nat.mul_assoc]
      have x2 : k * c' * (g * b') = (g * k) * (c' * b') := by simp only [Nat.mul_comm, Nat.mul_left_comm, Nat.mul_assoc]
      rw [← x1, ← x2]; exact h
    exact Nat.eq_of_mul_eq_mul_left (Nat.mul_pos g1 g2) h2
  have d1 : b' ∣ d' := c1.symm.dvd_of_dvd_mul_left (by rw [e]; exact Nat.dvd_mul_left _ _)
  have d2 : d' ∣ b' := c2.symm.dvd_of_dvd_mul_left (by rw [← e]; exact Nat.dvd_mul_left _ _)
  have eb : b' = d' := Nat.dvd_antisymm d1 d2
  subst eb
  have pb : 0 < b' := by
    rcases Nat.eq_zero_or_pos b' with z | z
    · rw [z, Nat.mul_zero] at hb; exact absurd hb (by decide)
    · exact z
  exact ⟨Nat.eq_of_mul_eq_mul_right pb e, rfl⟩
theorem red_eq {a b c d : Int} (ha : 0 ≤ a) (hc : 0 ≤ c) (hb : 0 < b) (hd : 0 < d) (h : a * d = c * b) : red a b = red c d := by
  obtain ⟨a, rfl⟩ := Int.eq_ofNat_of_zero_le ha
  obtain ⟨c, rfl⟩ := Int.eq_ofNat_of_zero_le hc
  obtain ⟨b, rfl⟩ := Int.eq_ofNat_of_zero_le (Int.le_of_lt hb)
  obtain ⟨d, rfl⟩ := Int.eq_ofNat_of_zero_le (Int.le_of_lt hd)
  have h' : a * d = c * b := by exact_mod_cast h
  have r := red_nat (by omega) (by omega) h'
  unfold red
  simp only [Int.natAbs_natCast]
  refine Prod.ext ?_ ?_
  · show ((a : Int) / ((Nat.gcd a b : Nat) : Int)) = (c : Int) / ((Nat.gcd c d : Nat) : Int)
    rw [← Int.natCast_ediv, ← Int.natCast_ediv, r.1]
  · show ((b : Int) / ((Nat.gcd a b : Nat) : Int)) = (d : Int) / ((Nat.gcd c d : Nat) : Int)
    rw [← Int.natCast_ediv, ← Int.natCast_ediv, r.2]
end Sc

/-! k69: what a score is, two ways, and that they are one. -/
namespace Sc
open PySem
def priceL (fl : List Bid) : List Int := fl.map Bid.price
/-- the program's fraction, not in lowest terms -/
def pre1 (f : List Tm) (ps : List Int) (b : Bid) : Int × Int :=
  if 0 < rs .low f + rs .mean f then (mp f b * (b.price * (ps.length : Int)) + rs .low f * minL ps * (ps.length : Int) + rs .mean f * ps.sum, b.price * (ps.length : Int)) else (mp f b, 1)
def preS (f : List Tm) (ps : List Int) (b : Bid) : Int × Int :=
  if maxL ps = minL ps then ((pre1 f ps b).1 + rs .range f * (pre1 f ps b).2, (pre1 f ps b).2)
  else if 0 < rs .range f then ((pre1 f ps b).1 * (maxL ps - minL ps) + rs .range f * (maxL ps - b.price) * (pre1 f ps b).2, (pre1 f ps b).2 * (maxL ps - minL ps)) else pre1 f ps b
/-- the law's fraction -/
def tone (ps : List Int) (b : Bid) : Tm → Int × Int
  | .mark k x => (x * (b.marks[k]?.getD 0), 1)
  | .rel .low x => (x * minL ps, b.price)
  | .rel .range x => if minL ps = maxL ps then (x, 1) else (x * (maxL ps - b.price), maxL ps - minL ps)
  | .rel .mean x => (x * ps.sum, b.price * (ps.length : Int))
def lstep (ps : List Int) (b : Bid) (a : Int × Int) (t : Tm) : Int × Int := (a.1 * (tone ps b t).2 + (tone ps b t).1 * a.2, a.2 * (tone ps b t).2)
def lawOver (f : List Tm) (ps : List Int) (b : Bid) : Int × Int := f.foldl (lstep ps b) (0, 1)
/-! ### the common numerator -/
def DD (ps : List Int) : Int := if minL ps = maxL ps then 1 else maxL ps - minL ps
def CC (ps : List Int) (b : Bid) : Int := b.price * (ps.length : Int) * DD ps
def con (b : Bid) : Tm → Int
  | .mark k x => x * (b.marks[k]?.getD 0)
  | _ => 0
def rng (ps : List Int) (b : Bid) : Int := if minL ps = maxL ps then CC ps b else (maxL ps - b.price) * (b.price * (ps.length : Int))
def num (ps : List Int) (b : Bid) : Tm → Int
  | .mark k x => x * (b.marks[k]?.getD 0) * CC ps b
  | .rel .low x => x * (minL ps * (ps.length : Int) * DD ps)
  | .rel .range x => x * rng ps b
  | .rel .mean x => x * (ps.sum * DD ps)
def NN (f : List Tm) (ps : List Int) (b : Bid) : Int := (f.map (num ps b)).sum
theorem tone_num (ps : List Int) (b : Bid) (t : Tm) : (tone ps b t).1 * CC ps b = num ps b t * (tone ps b t).2 := by
  cases t with
  | mark k x => simp only [tone, num]; grind
  | rel r x =>
    cases r with
    | low => simp only [tone, num, CC]; grind
    | range =>
      simp only [tone, num, rng, CC, DD]
      split <;> grind
    | mean => simp only [tone, num, CC]; grind
theorem over_fold (ps : List Int) (b : Bid) : ∀ (f : List Tm) (o u N : Int), o * CC ps b = N * u → (f.foldl (lstep ps b) (o, u)).1 * CC ps b = (N + NN f ps b) * (f.foldl (lstep ps b) (o, u)).2
  | [], o, u, N, h => by
    show o * CC ps b = (N + 0) * u
    rw [Int.add_zero]; exact h
  | t :: f, o, u, N, h => by
    have e := tone_num ps b t
    have ih := over_fold ps b f (o * (tone ps b t).2 + (tone ps b t).1 * u) (u * (tone ps b t).2) (N + num ps b t) (by grind)
    have en : NN (t :: f) ps b = num ps b t + NN f ps b := by unfold NN; rw [List.map_cons, List.sum_cons]
    rw [List.foldl_cons, en, ← Int.add_assoc]
    exact ih
theorem lawOver_eq (f : List Tm) (ps : List Int) (b : Bid) : (lawOver f ps b).1 * CC ps b = NN f ps b * (lawOver f ps b).2 := by
  have h := over_fold ps b f 0 1 0 (by simp)
  rw [Int.zero_add] at h
  exact h
theorem zs_set : ∀ (s ms : List Int) (k : Nat) (x : Int), k < s.length → s.length = ms.length → (List.zipWith (fun a b => a * b) (s.set k (s[k]?.getD 0 + x)) ms).sum = (List.zipWith (fun a b => a * b) s ms).sum + x * (ms[k]?.getD 0)
  | a :: s, m :: ms, 0, x, _, _ => by
    simp only [List.set_cons_zero, List.zipWith_cons_cons, List.sum_cons, List.getElem?_cons_zero, Option.getD_some]
    grind
  | a :: s, m :: ms, k + 1, x, h, e => by
    have ih := zs_set s ms k x (by simpa using h) (by simpa using e)
    simp only [List.set_cons_succ, List.zipWith_cons_cons, List.sum_cons, List.getElem?_cons_succ]
    rw [ih]
    grind
theorem zs_step (s : List Int) (b : Bid) (t : Tm) (ot : t.Ok) (hs : s.length = 4) (hm : b.marks.length = 4) : (List.zipWith (fun a b => a * b) (mwStep s t) b.marks).sum = (List.zipWith (fun a b => a * b) s b.marks).sum + con b t := by
  cases t with
  | mark k x =>
    have hk := ot.1
    exact zs_set s b.marks k x (by omega) (by omega)
  | rel r x => simp [mwStep, con]
theorem zs_fold (b : Bid) (hm : b.marks.length = 4) : ∀ (f : List Tm) (s : List Int), (∀ t ∈ f, t.Ok) → s.length = 4 → (List.zipWith (fun a b => a * b) (f.foldl mwStep s) b.marks).sum = (List.zipWith (fun a b => a * b) s b.marks).sum + (f.map (con b)).sum
  | [], s, _, _ => by simp
  | t :: f, s, h, hs => by
    rw [List.foldl_cons, zs_fold b hm f _ (fun t ht => h t (List.mem_cons_of_mem _ ht)) (by rw [mwStep_len, hs]), zs_step s b t (h t List.mem_cons_self) hs hm, List.map_cons, List.sum_cons]
    omega
theorem mp_eq (f : List Tm) (b : Bid) (hf : ∀ t ∈ f, t.Ok) (hm : b.marks.length = 4) : mp f b = (f.map (con b)).sum := by
  have h := zs_fold b hm f [0, 0, 0, 0] hf rfl
  have z : (List.zipWith (fun a b => a * b) [(0 : Int), 0, 0, 0] b.marks).sum = 0 := by
    obtain ⟨p, ms⟩ := b
    match ms, hm with
    | [m1, m2, m3, m4], _ => simp
  rw [z, Int.zero_add] at h
  exact h
theorem rs_cons (r : Rel) (t : Tm) (f : List Tm) : rs r (t :: f) = (if isRel r t then t.w else 0) + rs r f := by
  unfold rs
  rw [List.filter_cons]
  split
  · rw [List.map_cons, List.sum_cons]
  · rw [Int.zero_add]
theorem NN_split (ps : List Int) (b : Bid) : ∀ f : List Tm, NN f ps b = (f.map (con b)).sum * CC ps b + rs .low f * (minL ps * (ps.length : Int) * DD ps) + rs .range f * rng ps b + rs .mean f * (ps.sum * DD ps)
  | [] => by simp [NN, rs]
  | t :: f => by
    have ih := NN_split ps b f
    have en : NN (t :: f) ps b = num ps b t + NN f ps b := by unfold NN; rw [List.map_cons, List.sum_cons]
    rw [en, ih, rs_cons, rs_cons, rs_cons, List.map_cons, List.sum_cons]
    cases t with
    | mark k x => simp only [isRel, con, num]; grind
    | rel r x => cases r <;> simp [isRel, con, num, Tm.w] <;> grind
theorem preS_eq (f : List Tm) (ps : List Int) (b : Bid) (hf : ∀ t ∈ f, t.Ok) (hm : b.marks.length = 4) (l0 : 0 ≤ rs .low f) (m0 : 0 ≤ rs .mean f) (s0 : 0 ≤ rs .range f) : (preS f ps b).1 * CC ps b = NN f ps b * (preS f ps b).2 := by
  have e := NN_split ps b f
  rw [← mp_eq f b hf hm] at e
  rw [e]
  unfold preS pre1 rng CC DD
  generalize mp f b = m
  generalize rs .low f = l at *
  generalize rs .range f = r at *
  generalize rs .mean f = z at *
  generalize minL ps = a
  generalize maxL ps = c
  generalize (ps.length : Int) = n
  generalize ps.sum = s
  by_cases h1 : 0 < l + z
  · rw [if_pos h1]
    by_cases h2 : a = c
    · rw [if_pos h2.symm, if_pos h2, if_pos h2]; grind
    · rw [if_neg (Ne.symm h2), if_neg h2, if_neg h2]
      by_cases h3 : 0 < r
      · rw [if_pos h3]; grind
      · rw [if_neg h3]
        have : r = 0 := by omega
        subst this
        grind
  · rw [if_neg h1]
    have hl : l = 0 := by omega
    have hz : z = 0 := by omega
    subst hl hz
    by_cases h2 : a = c
    · rw [if_pos h2.symm, if_pos h2, if_pos h2]; grind
    · rw [if_neg (Ne.symm h2), if_neg h2, if_neg h2]
      by_cases h3 : 0 < r
      · rw [if_pos h3]; grind
      · rw [if_neg h3]
        have : r = 0 := by omega
        subst this
        grind
/-! ### signs and sizes -/
theorem rs_bounds (r : Rel) (f : List Tm) (hf : FormOk f) : 0 ≤ rs r f ∧ rs r f ≤ 6000 := by
  have h := sum_bounds (M := 1000) (by decide) (l := (f.filter (isRel r)).map Tm.w) (by
    intro z hz
    rw [List.mem_map] at hz
    obtain ⟨t, ht, rfl⟩ := hz
    have o := hf.2 t (List.mem_filter.mp ht).1
    cases t with
    | mark k x => exact ⟨by have := o.2.1; show 0 ≤ x; omega, o.2.2⟩
    | rel q x => exact ⟨by have := o.1; show 0 ≤ x; omega, o.2⟩)
  have l1 : ((f.filter (isRel r)).map Tm.w).length ≤ 6 := by
    rw [List.length_map]
    exact Nat.le_trans (List.length_filter_le _ _) hf.1
  unfold rs
  omega
theorem mw_bounds : ∀ (f : List Tm) (s : List Int) (M : Int), (∀ t ∈ f, t.Ok) → (∀ z ∈ s, 0 ≤ z ∧ z ≤ M) → ∀ z ∈ f.foldl mwStep s, 0 ≤ z ∧ z ≤ M + 1000 * (f.length : Int)
  | [], s, M, _, h, z, hz => by
    have := h z hz
    simp only [List.length_nil]
    omega
  | t :: f, s, M, ho, h, z, hz => by
    rw [List.foldl_cons] at hz
    have o := ho t List.mem_cons_self
    have ih := mw_bounds f (mwStep s t) (M + 1000) (fun t ht => ho t (List.mem_cons_of_mem _ ht)) (fun z hz => ?_) z hz
    · rw [List.length_cons]
      omega
    · cases t with
      | mark k x =>
        have o1 := o.2.1
        have o2 := o.2.2
        rcases List.mem_or_eq_of_mem_set hz with e | e
        · have := h z e; omega
        · cases q : s[k]? with
          | none =>
            have hk : ¬ k < s.length := fun hk => by rw [List.getElem?_eq_getElem hk] at q; cases q
            rw [show mwStep s (.mark k x) = s from List.set_eq_of_length_le (by omega)] at hz
            have := h z hz; omega
          | some y =>
            have hy := h y (List.mem_of_getElem? q)
            rw [q] at e
            have e' : z = y + x := e
            omega
      | rel r x => have := h z hz; omega
theorem mp_bounds (f : List Tm) (b : Bid) (hf : FormOk f) (hb : b.Ok) : 0 ≤ mp f b ∧ mp f b ≤ 2400000 := by
  have hw := mw_bounds f [0, 0, 0, 0] 0 hf.2 (by simp)
  have h := sum_bounds (M := 600000) (by decide) (l := List.zipWith (fun a b => a * b) (mw f) b.marks) (by
    intro z hz
    obtain ⟨i, hi, e⟩ := List.mem_iff_getElem.mp hz
    rw [List.getElem_zipWith] at e
    have h1 := hw _ (List.getElem_mem (l := mw f) (n := i) (by rw [List.length_zipWith] at hi; omega))
    have h2 := hb.mkb _ (List.getElem_mem (l := b.marks) (n := i) (by rw [List.length_zipWith] at hi; omega))
    have h3 := hf.1
    have e1 : 0 ≤ (mw f)[i]'(by rw [List.length_zipWith] at hi; omega) := h1.1
    have e2 : (mw f)[i]'(by rw [List.length_zipWith] at hi; omega) ≤ 6000 := by omega
    rw [← e]
    refine ⟨Int.mul_nonneg e1 h2.1, ?_⟩
    have := Int.mul_le_mul e2 h2.2 h2.1 (by decide)
    omega)
  have l1 : (List.zipWith (fun a b => a * b) (mw f) b.marks).length = 4 := by rw [List.length_zipWith, mw_len, hb.len]; rfl
  rw [l1] at h
  unfold mp
  omega
structure PsOk (ps : List Int) (b : Bid) : Prop where
  bd : ∀ z ∈ ps, 1 ≤ z ∧ z ≤ 1000000000
  len : ps.length ≤ 130
  mem : b.price ∈ ps
theorem psOk {fl : List Bid} (h : FieldOk fl) {b : Bid} (hb : b ∈ fl) : PsOk (priceL fl) b :=
  ⟨fun z hz => by
    obtain ⟨c, hc, rfl⟩ := List.mem_map.mp hz
    exact ⟨(h.2 c hc).lo, (h.2 c hc).hi⟩, by unfold priceL; rw [List.length_map]; exact h.1, List.mem_map.mpr ⟨b, hb, rfl⟩⟩
section
variable {f : List Tm} {ps : List Int} {b : Bid}
theorem PsOk.n0 (p : PsOk ps b) : 1 ≤ ps.length := List.length_pos_of_mem p.mem
theorem PsOk.ne (p : PsOk ps b) : ps ≠ [] := List.ne_nil_of_mem p.mem
theorem PsOk.min (p : PsOk ps b) : 1 ≤ minL ps ∧ minL ps ≤ b.price := ⟨(p.bd _ (minL_mem p.ne)).1, minL_le p.mem⟩
theorem PsOk.max (p : PsOk ps b) : b.price ≤ maxL ps ∧ maxL ps ≤ 1000000000 := ⟨maxL_le p.mem, (p.bd _ (maxL_mem p.ne)).2⟩
theorem PsOk.pr (p : PsOk ps b) : 1 ≤ b.price ∧ b.price ≤ 1000000000 := p.bd _ p.mem
theorem PsOk.sum (p : PsOk ps b) : 0 ≤ ps.sum ∧ ps.sum ≤ 130000000000 := by
  have h := sum_bounds (M := 1000000000) (by decide) (l := ps) fun z hz => ⟨by have := p.bd z hz; omega, (p.bd z hz).2⟩
  have := p.len
  omega
theorem DD_pos (p : PsOk ps b) : 0 < DD ps := by
  have := p.min; have := p.max
  unfold DD
  split <;> omega
theorem CC_pos (p : PsOk ps b) : 0 < CC ps b := by
  have := p.pr; have := p.n0
  exact Int.mul_pos (Int.mul_pos (by omega) (by omega)) (DD_pos p)
theorem mark_get (hb : b.Ok) (k : Nat) : 0 ≤ b.marks[k]?.getD 0 ∧ b.marks[k]?.getD 0 ≤ 100 := by
  cases e : b.marks[k]? with
  | none => exact ⟨Int.le_refl _, by decide⟩
  | some m => exact hb.mkb m (List.mem_of_getElem? e)
theorem num_nn (p : PsOk ps b) (hb : b.Ok) {t : Tm} (ot : t.Ok) : 0 ≤ num ps b t := by
  have c := Int.le_of_lt (CC_pos p)
  have d := Int.le_of_lt (DD_pos p)
  have := p.min; have := p.max; have := p.pr; have := p.sum
  cases t with
  | mark k x =>
    have := ot.2.1
    exact Int.mul_nonneg (Int.mul_nonneg (by omega) (mark_get hb k).1) c
  | rel r x =>
    have := ot.1
    cases r with
    | low => exact Int.mul_nonneg (by omega) (Int.mul_nonneg (Int.mul_nonneg (by omega) (by omega)) d)
    | range =>
      refine Int.mul_nonneg (by omega) ?_
      unfold rng
      split
      · exact c
      · exact Int.mul_nonneg (by omega) (Int.mul_nonneg (by omega) (by omega))
    | mean => exact Int.mul_nonneg (by omega) (Int.mul_nonneg (by omega) d)
theorem NN_nn (p : PsOk ps b) (hb : b.Ok) : ∀ {f : List Tm}, (∀ t ∈ f, t.Ok) → 0 ≤ NN f ps b
  | [], _ => by simp [NN]
  | t :: f, h => by
    have en : NN (t :: f) ps b = num ps b t + NN f ps b := by unfold NN; rw [List.map_cons, List.sum_cons]
    rw [en]
    exact Int.add_nonneg (num_nn p hb (h t List.mem_cons_self)) (NN_nn p hb fun t ht => h t (List.mem_cons_of_mem _ ht))
theorem tone_pos (p : PsOk ps b) (t : Tm) : 0 < (tone ps b t).2 := by
  have := p.min; have := p.max; have := p.pr; have := p.n0
  cases t with
  | mark k x => exact Int.one_pos
  | rel r x =>
    cases r with
    | low => show 0 < b.price; omega
    | range =>
      simp only [tone]
      split
      · exact Int.one_pos
      · show 0 < maxL ps - minL ps; omega
    | mean => exact Int.mul_pos (by omega) (by omega)
theorem fold_pos (p : PsOk ps b) : ∀ (f : List Tm) (a : Int × Int), 0 < a.2 → 0 < (f.foldl (lstep ps b) a).2
  | [], a, h => h
  | t :: f, a, h => by
    rw [List.foldl_cons]
    exact fold_pos p f _ (Int.mul_pos h (tone_pos p t))
theorem preS_pos (p : PsOk ps b) : 0 < (preS f ps b).2 := by
  have := p.min; have := p.max; have := p.pr; have := p.n0
  have u1 : 0 < (pre1 f ps b).2 := by
    unfold pre1
    split
    · exact Int.mul_pos (by omega) (by omega)
    · exact Int.one_pos
  unfold preS
  split
  · exact u1
  · split
    · exact Int.mul_pos u1 (by omega)
    · exact u1
theorem nn_of {o u c N : Int} (hc : 0 < c) (hu : 0 < u) (hN : 0 ≤ N) (h : o * c = N * u) : 0 ≤ o := by
  by_cases z : o < 0
  · have h1 : o * c < 0 := Int.mul_neg_of_neg_of_pos z hc
    have h2 : 0 ≤ N * u := Int.mul_nonneg hN (Int.le_of_lt hu)
    omega
  · omega
theorem lawOver_nn (p : PsOk ps b) (hb : b.Ok) (hf : FormOk f) : 0 ≤ (lawOver f ps b).1 := nn_of (CC_pos p) (fold_pos p f (0, 1) Int.one_pos) (NN_nn p hb hf.2) (lawOver_eq f ps b)
theorem preS_nn (p : PsOk ps b) (hb : b.Ok) (hf : FormOk f) : 0 ≤ (preS f ps b).1 :=
  nn_of (CC_pos p) (preS_pos p) (NN_nn p hb hf.2) (preS_eq f ps b hf.2 hb.len (rs_bounds _ f hf).1 (rs_bounds _ f hf).1 (rs_bounds _ f hf).1)
/-- THE LAW's fraction is the program's -/
theorem same_score (p : PsOk ps b) (hb : b.Ok) (hf : FormOk f) : red (lawOver f ps b).1 (lawOver f ps b).2 = red (preS f ps b).1 (preS f ps b).2 := by
  have h1 := lawOver_eq f ps b
  have h2 := preS_eq f ps b hf.2 hb.len (rs_bounds _ f hf).1 (rs_bounds _ f hf).1 (rs_bounds _ f hf).1
  have c := CC_pos p
  refine red_eq (lawOver_nn p hb hf) (preS_nn p hb hf) (fold_pos p f (0, 1) Int.one_pos) (preS_pos p) ?_
  have : (lawOver f ps b).1 * (preS f ps b).2 * CC ps b = (preS f ps b).1 * (lawOver f ps b).2 * CC ps b := by grind
  exact Int.eq_of_mul_eq_mul_right (Int.ne_of_gt c) this
/-! sizes by bits -/
theorem PsOk.nbn (p : PsOk ps b) : Nb 8 (ps.length : Int) := Nb.of (by omega) (by have := p.len; simp; omega)
theorem PsOk.nbp (p : PsOk ps b) : Nb 30 b.price := Nb.of (by have := p.pr; omega) (by have := p.pr; simp; omega)
theorem PsOk.nbmin (p : PsOk ps b) : Nb 30 (minL ps) := Nb.of (by have := p.min; omega) (by have := p.min; have := p.pr; simp; omega)
theorem PsOk.nbmax (p : PsOk ps b) : Nb 30 (maxL ps) := Nb.of (by have := p.max; have := p.pr; omega) (by have := p.max; simp; omega)
theorem PsOk.nbsum (p : PsOk ps b) : Nb 38 ps.sum := Nb.of p.sum.1 (by have := p.sum; simp; omega)
theorem nbrs (hf : FormOk f) (r : Rel) : Nb 13 (rs r f) := Nb.of (rs_bounds r f hf).1 (by have := rs_bounds r f hf; simp; omega)
theorem nbmp (hf : FormOk f) (hb : b.Ok) : Nb 22 (mp f b) := Nb.of (mp_bounds f b hf hb).1 (by have := mp_bounds f b hf hb; simp; omega)
theorem nb1 : Nb 1 1 := by show (1 : Int).natAbs < 2 ^ 1; decide
theorem nb0 : Nb 1 0 := by show (0 : Int).natAbs < 2 ^ 1; decide
theorem nb_pre1 (p : PsOk ps b) (hb : b.Ok) (hf : FormOk f) : Nb 100 (pre1 f ps b).1 ∧ Nb 38 (pre1 f ps b).2 := by
  unfold pre1
  split
  · exact ⟨((((nbmp hf hb).mul (p.nbp.mul p.nbn)).mono (b := 70) (by decide)).add ((((nbrs hf .low).mul p.nbmin).mul p.nbn).mono (by decide))).add (((nbrs hf .mean).mul p.nbsum).mono (by decide)) |>.mono (by decide), p.nbp.mul p.nbn⟩
  · exact ⟨(nbmp hf hb).mono (by decide), nb1.mono (by decide)⟩
theorem nb_preS (p : PsOk ps b) (hb : b.Ok) (hf : FormOk f) : Nb 200 (preS f ps b).1 ∧ Nb 200 (preS f ps b).2 := by
  obtain ⟨h1, h2⟩ := nb_pre1 p hb hf
  unfold preS
  split
  · exact ⟨((h1.mono (b := 150) (by decide)).add (((nbrs hf .range).mul h2).mono (by decide))).mono (by decide), h2.mono (by decide)⟩
  · split
    · exact ⟨((((h1.mul (p.nbmax.sub p.nbmin)).mono (b := 150) (by decide))).add ((((nbrs hf .range).mul (p.nbmax.sub p.nbp)).mul h2).mono (by decide))).mono (by decide), (h2.mul (p.nbmax.sub p.nbmin)).mono (by decide)⟩
    · exact ⟨h1.mono (by decide), h2.mono (by decide)⟩
theorem nb_tone (p : PsOk ps b) (hb : b.Ok) {t : Tm} (ot : t.Ok) : Nb 50 (tone ps b t).1 ∧ Nb 40 (tone ps b t).2 := by
  cases t with
  | mark k x =>
    have hx : Nb 10 x := Nb.of (by have := ot.2.1; omega) (by have := ot.2.2; simp; omega)
    have hm : Nb 7 (b.marks[k]?.getD 0) := Nb.of (mark_get hb k).1 (by have := (mark_get hb k).2; simp; omega)
    exact ⟨(hx.mul hm).mono (by decide), nb1.mono (by decide)⟩
  | rel r x =>
    have hx : Nb 10 x := Nb.of (by have := ot.1; omega) (by have := ot.2; simp; omega)
    cases r with
    | low => exact ⟨(hx.mul p.nbmin).mono (by decide), p.nbp.mono (by decide)⟩
    | range =>
      simp only [tone]
      split
      · exact ⟨hx.mono (by decide), nb1.mono (by decide)⟩
      · exact ⟨(hx.mul (p.nbmax.sub p.nbp)).mono (by decide), (p.nbmax.sub p.nbmin).mono (by decide)⟩
    | mean => exact ⟨(hx.mul p.nbsum).mono (by decide), (p.nbp.mul p.nbn).mono (by decide)⟩
theorem nb_fold (p : PsOk ps b) (hb : b.Ok) : ∀ (f : List Tm) (a : Int × Int) (m n : Nat), (∀ t ∈ f, t.Ok) → Nb m a.1 → Nb n a.2 → n ≤ m → Nb (m + 51 * f.length) (f.foldl (lstep ps b) a).1 ∧ Nb (n + 40 * f.length) (f.foldl (lstep ps b) a).2
  | [], a, m, n, _, h1, h2, _ => ⟨h1, h2⟩
  | t :: f, a, m, n, ho, h1, h2, hl => by
    obtain ⟨t1, t2⟩ := nb_tone p hb (ho t List.mem_cons_self)
    have g1 : Nb (m + 51) (lstep ps b a t).1 := (((h1.mul t2).mono (b := m + 50) (by omega)).add ((t1.mul h2).mono (by omega))).mono (by omega)
    have g2 : Nb (n + 40) (lstep ps b a t).2 := h2.mul t2
    have ih := nb_fold p hb f (lstep ps b a t) (m + 51) (n + 40) (fun t ht => ho t (List.mem_cons_of_mem _ ht)) g1 g2 (by omega)
    rw [List.foldl_cons, List.length_cons]
    exact ⟨ih.1.mono (by omega), ih.2.mono (by omega)⟩
theorem nb_over (p : PsOk ps b) (hb : b.Ok) (f : List Tm) (hf : ∀ t ∈ f, t.Ok) (hl : f.length ≤ 6) : Nb 400 (lawOver f ps b).1 ∧ Nb 400 (lawOver f ps b).2 := by
  have h := nb_fold p hb f (0, 1) 1 1 hf nb0 nb1 (by decide)
  exact ⟨h.1.mono (by omega), h.2.mono (by omega)⟩
end
end Sc

/-! k69, 4: the defs that score. -/
namespace Sc
open PySem L2 Fw
open PyProof.Rows (envOfC)
def pairD (p : Int × Int) : PyData := .tuple [.int p.1, .int p.2]
def scoreOf (f : List Tm) (fl : List Bid) (b : Bid) : Int × Int := red (preS f (priceL fl) b).1 (preS f (priceL fl) b).2
section
variable {P : Program} {w : World} {K : PySem.W.Frag} {mg : Str → Option Value} {base : Heap}
/-! ### marks_part -/
def Gmarks_part (ds : List PyData) (d : PyData) : Prop := ∃ (f : List Tm) (b : Bid), FormOk f ∧ b.Ok ∧ ds = [formD f, b.d] ∧ d = .int (mp f b)
theorem okmarks_part (T : Txt K mg) : FnOk P w K mg base CX0 6 T.amarks_part T.dmarks_part ["formula", "bid"] (spP K Gmarks_part) := by
  refine pureOk T.Fmarks_part scmarks_part (by rintro _ _ ⟨f, b, _, _, rfl, _⟩; rfl) fun cdv A outer s H E hr => ⟨_, (pss_one (ps_ret (kB (r := rSum K) (cr_sum rfl) T.n_sum (kpa (pe_lc (own := [("weight", 2), ("mark", 3)]) (g := (gTup K 2 (gCons (gName 2) (gCons (gName 3) gNil)))) (tt := tYes) (by rfl) scmarks_part.nd (show PI _ _ _ (RZ.iZipA K _) from kzip T.n_zip (kpa (kcall (okmark_weights T) (hr.mono (by decide)) T.g_mark_weights T.k_mark_weights T.b_mark_weights (kpa (kvl 0) pa_nil)) (kpa (pe_ix (r := rIxT K) ix_tup (kvl 1) pe_int (fun _ _ => rfl)) pa_nil))) (blkOk_by (by kernel_rfl)) (fun _ _ _ _ _ => (kgt (n := 2) (by rfl) (kgs (kgl 2 scmarks_part.nd) (kgs (kgl 3 scmarks_part.nd) pgs_nil)))) (fun _ _ _ _ _ => pts_nil) (fun _ _ _ _ _ => (pe_op op_mul (kvl 2) (kvl 3)))) pa_nil)))), ?_⟩
  rintro _ _ ⟨f, b, of, ob, rfl, rfl⟩ ms σ H Q h k
  have e : (List.zipWith (fun a b => PyData.tuple [a, b]) ((mw f).map .int) (b.marks.map .int)) = ((mw f).zip b.marks).map fun p => .tuple [.int p.1, .int p.2] := zip_tup _ _
  refine s_fin h (ev_sum (ev_lcN (xs := (mw f).zip b.marks) (enc := fun p => .tuple [.int p.1, .int p.2]) (f := fun p => .int (p.1 * p.2)) (S := fun p => [.dat (formD f), .dat b.d, .dat (.int p.1), .dat (.int p.2)])
    (e ▸ src_zipT (ed_cons (ev_call (ed_cons (evd_var rfl) ed_nil) ⟨f, of, rfl, rfl⟩) (ed_cons (ev_ixT (evd_var rfl) ev_int rfl) ed_nil))) ?_
    (fun p hp => ⟨[2, 3], tg_tup (tgs_cons tg_name (tgs_cons tg_name tgs_nil)) rfl, fun j z => z⟩) fun p hp => ?_) (ns := ((mw f).zip b.marks).map fun p => p.1 * p.2) (by rw [List.map_map]; rfl)) ?_
  · rw [List.length_zip, mw_len]
    omega
  · have hm := ob.mkb p.2 (List.of_mem_zip hp).2
    exact ev_mul (evd_var rfl) (evd_var rfl) (.inr ⟨by omega, by omega⟩)
  · intro v H' h' o
    refine k v H' h' ?_
    have e2 : (((mw f).zip b.marks).map fun p => p.1 * p.2) = List.zipWith (fun a b => a * b) (mw f) b.marks := by
      rw [List.zip_eq_zipWith, List.map_zipWith]
    rw [e2] at o
    exact o
/-! ### score_of -/
def Gscore_of (ds : List PyData) (d : PyData) : Prop := ∃ (f : List Tm) (q : Bool) (fl : List Bid) (i : Nat) (b : Bid), FormOk f ∧ FieldOk fl ∧ fl[i]? = some b ∧ ds = [formD f, sq q (fl.map Bid.d), .int (i : Int)] ∧ d = pairD (scoreOf f fl b)
theorem priceD (fl : List Bid) : (fl.map fun b => PyData.int b.price) = (priceL fl).map .int := by unfold priceL; rw [List.map_map]; rfl
theorem okscore_of (T : Txt K mg) : FnOk P w K mg base CX0 7 T.ascore_of T.dscore_of ["formula", "field", "index"] (spP K Gscore_of) := by
  refine pureOk T.Fscore_of scscore_of (by rintro _ _ ⟨f, q, fl, i, b, _, _, _, rfl, _⟩; rfl) fun cdv A outer s H E hr => ⟨_, (pss_cons (kasg (kcall (okrelative_weights T) (hr.mono (by decide)) T.g_relative_weights T.k_relative_weights T.b_relative_weights (kpa (kvl 0) pa_nil)) (kgt (n := 3) (by rfl) (kgs (kgl 3 scscore_of.nd) (kgs (kgl 4 scscore_of.nd) (kgs (kgl 5 scscore_of.nd) pgs_nil)))))
      (pss_cons (kpar (i := 6) (j := 7) (by rfl) scscore_of.nd (by decide) (kpa (kcall (okprices_of T) (hr.mono (by decide)) T.g_prices_of T.k_prices_of T.b_prices_of (kpa (kvl 1) pa_nil)) (kpa (pe_ix (r := rIx K) ix_seq (kvl 1) (kvl 2) (fun _ _ => rfl)) pa_nil)))
      (pss_cons (kpar3 (i := 8) (j := 9) (l := 10) (by rfl) scscore_of.nd (by decide) (by decide) (by decide) (kpa (pe_ix (r := rIxT K) ix_tup (kvl 7) pe_int (fun _ _ => rfl)) (kpa (kB (r := rMin K) (cr_min rfl) T.n_min (kpa (kvl 6) pa_nil)) (kpa (kB (r := rMax K) (cr_max rfl) T.n_max (kpa (kvl 6) pa_nil)) pa_nil))))
      (pss_cons (kpar (i := 11) (j := 12) (by rfl) scscore_of.nd (by decide) (kpa (kcall (okmarks_part T) (hr.mono (by decide)) T.g_marks_part T.k_marks_part T.b_marks_part (kpa (kvl 0) (kpa (kvl 7) pa_nil))) (kpa pe_int pa_nil)))
      (pss_cons (ps_if (pt_cmpR op_gt (pe_op op_add (kvl 3) (kvl 5)) pe_int (nomark _)) (pss_cons (ksl 12 scscore_of.nd (pe_op op_mulW (kvl 8) (kB (r := rLenQ K) call_len_seq T.n_len (kpa (kvl 6) pa_nil))))
      (pss_one (ksl 11 scscore_of.nd (pe_op op_add (pe_op op_add (pe_op op_mulW (kvl 11) (kvl 12)) (pe_op op_mulW (pe_op op_mulW (kvl 3) (kvl 9)) (kB (r := rLenQ K) call_len_seq T.n_len (kpa (kvl 6) pa_nil)))) (pe_op op_mulW (kvl 5) (kB (r := rSum K) (cr_sum rfl) T.n_sum (kpa (kvl 6) pa_nil))))))) pss_nil)
      (pss_cons (ps_if (pt_cmpR op_eq (kvl 10) (kvl 9) (nomark _)) (pss_one (ksl 11 scscore_of.nd (pe_op op_add (kvl 11) (pe_op op_mulW (kvl 4) (kvl 12))))) (pss_one (ps_if (pt_cmpR op_gt (kvl 4) pe_int (nomark _)) (pss_cons (ksl 11 scscore_of.nd (pe_op op_add (pe_op op_mulW (kvl 11) (pe_op op_sub (kvl 10) (kvl 9))) (pe_op op_mulW (pe_op op_mulW (kvl 4) (pe_op op_sub (kvl 10) (kvl 8))) (kvl 12))))
      (pss_one (ksl 12 scscore_of.nd (pe_op op_mulW (kvl 12) (pe_op op_sub (kvl 10) (kvl 9)))))) pss_nil)))
      (pss_cons (ksl 13 scscore_of.nd (kBf cr_gcd T.n_gcd (kpa (kvl 11) (kpa (kvl 12) pa_nil))))
      (pss_one (ps_ret (pe_tup (kpa (pe_op op_fdivW (kvl 11) (kvl 13)) (kpa (pe_op op_fdivW (kvl 12) (kvl 13)) pa_nil)))))))))))), ?_⟩
  rintro _ _ ⟨f, q, fl, i, b, of, ol, eb, rfl, rfl⟩ ms σ H Q h k
  have h : At K W0 ms ⟨H, H⟩ [.dat (formD f), .dat (sq q (fl.map Bid.d)), .dat (.int (i : Int)), .emp, .emp, .emp, .emp, .emp, .emp, .emp, .emp, .emp, .emp, .emp] σ H := h
  have mb : b ∈ fl := List.mem_of_getElem? eb
  have ob := ol.2 b mb
  have p := psOk ol mb
  refine q_tgt h (ev_call (ed_cons (evd_var rfl) ed_nil) ⟨f, of, rfl, rfl⟩) (tg_tup (tgs_cons tg_name (tgs_cons tg_name (tgs_cons tg_name tgs_nil))) rfl) fun σ1 H1 h1 _ => ?_
  dsimp only [List.set] at h1
  refine q_par h1 (ea_cons (ev_call (ed_cons (evd_var rfl) ed_nil) ⟨q, fl, ol.1, rfl, rfl⟩) (ea_cons (ev_ixS (d := b.d) (evd_var rfl) (evd_var rfl) (atI_nat (by rw [List.getElem?_map, eb]; rfl))) ea_nil)) fun σ2 H2 h2 _ => ?_
  dsimp only [List.set] at h2
  refine q_par3 h2 (ea_cons (ev_ixT (d := .int b.price) (evd_var rfl) ev_int rfl) (ea_cons (ev_min (m := minL (priceL fl)) (evd_var rfl) (priceD fl) (minL_mem p.ne) fun y => minL_le) (ea_cons (ev_max (m := maxL (priceL fl)) (evd_var rfl) (priceD fl) (maxL_mem p.ne) fun y => maxL_le) ea_nil))) fun σ3 H3 h3 _ => ?_
  dsimp only [List.set] at h3
  refine q_par h3 (ea_cons (ev_call (ed_cons (evd_var rfl) (ed_cons (evd_var rfl) ed_nil)) ⟨f, b, of, ob, rfl, rfl⟩) (ea_cons ev_int ea_nil)) fun σ4 H4 h4 _ => ?_
  dsimp only [List.set] at h4
  have el : ((fl.map fun b => PyData.int b.price).length : Int) = ((priceL fl).length : Int) := by unfold priceL; rw [List.length_map, List.length_map]
  have nmp := nbmp of ob
  have nlo := nbrs of .low
  have nsp := nbrs of .range
  have nmi := nbrs of .mean
  have M : ∀ {a b : Nat} {x y : Int}, Nb a x → Nb b y → a ≤ 1000 → b ≤ 1000 → CMulW x y := fun h g i j => cmw (h.mono i) (g.mono j)
  -- if low + middle > 0
  refine q_cut (M := fun σ' H' => At K W0 ms ⟨H, H⟩ [.dat (formD f), .dat (sq q (fl.map Bid.d)), .dat (.int (i : Int)), .dat (.int (rs .low f)), .dat (.int (rs .range f)), .dat (.int (rs .mean f)), .dat (.list (fl.map fun b => .int b.price)), .dat b.d, .dat (.int b.price),
      .dat (.int (minL (priceL fl))), .dat (.int (maxL (priceL fl))), .dat (.int (pre1 f (priceL fl) b).1), .dat (.int (pre1 f (priceL fl) b).2), .emp] σ' H') (fun Z hZ => ?_) fun σ5 H5 h5 => ?_
  · by_cases c : 0 < rs .low f + rs .mean f
    · have e1 : pre1 f (priceL fl) b = _ := if_pos c
      refine s_if (b := true) h4 (et_eq (et_test (ev_gt (ev_add (evd_var rfl) (evd_var rfl)) ev_int)) (decide_eq_true c)) (fun _ H5 h5 _ => ?_) (fun q => nomatch q)
      refine q_asg h5 (ev_mulW (evd_var rfl) (evd_eq (ev_lenL (evd_var rfl)) (by rw [el])) (M p.nbp p.nbn (by decide) (by decide))) fun σ6 H6 h6 _ => ?_
      dsimp only [List.set] at h6
      refine s_asg h6 (ev_add (ev_add (ev_mulW (evd_var rfl) (evd_var rfl) (M nmp (p.nbp.mul p.nbn) (by decide) (by decide))) (ev_mulW (ev_mulW (evd_var rfl) (evd_var rfl) (M nlo p.nbmin (by decide) (by decide))) (evd_eq (ev_lenL (evd_var rfl)) (by rw [el])) (M (nlo.mul p.nbmin) p.nbn (by decide) (by decide))))
        (ev_mulW (evd_var rfl) (ev_sum (evd_var rfl) (priceD fl)) (M nmi p.nbsum (by decide) (by decide)))) fun σ7 H7 h7 _ => hZ _ _ ?_
      rw [e1]
      exact h7
    · have e1 : pre1 f (priceL fl) b = _ := if_neg c
      refine s_if (b := false) h4 (et_eq (et_test (ev_gt (ev_add (evd_var rfl) (evd_var rfl)) ev_int)) (decide_eq_false c)) (fun q => nomatch q) fun _ H5 h5 _ => hZ _ _ ?_
      rw [e1]
      exact h5
  obtain ⟨n1, n2⟩ := nb_pre1 p ob of
  refine q_cut (M := fun σ' H' => At K W0 ms ⟨H, H⟩ [.dat (formD f), .dat (sq q (fl.map Bid.d)), .dat (.int (i : Int)), .dat (.int (rs .low f)), .dat (.int (rs .range f)), .dat (.int (rs .mean f)), .dat (.list (fl.map fun b => .int b.price)), .dat b.d, .dat (.int b.price),
      .dat (.int (minL (priceL fl))), .dat (.int (maxL (priceL fl))), .dat (.int (preS f (priceL fl) b).1), .dat (.int (preS f (priceL fl) b).2), .emp] σ' H') (fun Z hZ => ?_) fun σ6 H6 h6 => ?_
  · by_cases c : maxL (priceL fl) = minL (priceL fl)
    · have e1 : preS f (priceL fl) b = _ := if_pos c
      refine s_if (b := true) h5 (et_eq (et_test (ev_eqI (evd_var rfl) (evd_var rfl))) (decide_eq_true c)) (fun _ H6 h6 _ => ?_) (fun q => nomatch q)
      refine s_asg h6 (ev_add (evd_var rfl) (ev_mulW (evd_var rfl) (evd_var rfl) (M nsp n2 (by decide) (by decide)))) fun σ7 H7 h7 _ => hZ _ _ ?_
      rw [e1]
      exact h7
    · refine s_if (b := false) h5 (et_eq (et_test (ev_eqI (evd_var rfl) (evd_var rfl))) (decide_eq_false c)) (fun q => nomatch q) fun _ H6 h6 _ => ?_
      have e0 : preS f (priceL fl) b = _ := if_neg c
      by_cases c2 : 0 < rs .range f
      · rw [if_pos c2] at e0
        refine s_if (b := true) h6 (et_eq (et_test (ev_gt (evd_var rfl) ev_int)) (decide_eq_true c2)) (fun _ H7 h7 _ => ?_) (fun q => nomatch q)
        have d1 := p.nbmax.sub p.nbmin
        have d2 := p.nbmax.sub p.nbp
        refine q_asg h7 (ev_add (ev_mulW (evd_var rfl) (ev_sub (evd_var rfl) (evd_var rfl)) (M n1 d1 (by decide) (by decide))) (ev_mulW (ev_mulW (evd_var rfl) (ev_sub (evd_var rfl) (evd_var rfl)) (M nsp d2 (by decide) (by decide))) (evd_var rfl) (M (nsp.mul d2) n2 (by decide) (by decide)))) fun σ8 H8 h8 _ => ?_
        dsimp only [List.set] at h8
        refine s_asg h8 (ev_mulW (evd_var rfl) (ev_sub (evd_var rfl) (evd_var rfl)) (M n2 d1 (by decide) (by decide))) fun σ9 H9 h9 _ => hZ _ _ ?_
        rw [e0]
        exact h9
      · rw [if_neg c2] at e0
        refine s_if (b := false) h6 (et_eq (et_test (ev_gt (evd_var rfl) ev_int)) (decide_eq_false c2)) (fun q => nomatch q) fun _ H7 h7 _ => hZ _ _ ?_
        rw [e0]
        exact h7
  obtain ⟨n3, n4⟩ := nb_preS p ob of
  have up := preS_pos (f := f) p
  refine q_asg h6 (ev_gcd (evd_var rfl) (evd_var rfl)) fun σ7 H7 h7 _ => ?_
  dsimp only [List.set] at h7
  have gp : 0 < Nat.gcd (preS f (priceL fl) b).1.natAbs (preS f (priceL fl) b).2.natAbs := Nat.gcd_pos_of_pos_right _ (by omega)
  have gl : Nat.gcd (preS f (priceL fl) b).1.natAbs (preS f (priceL fl) b).2.natAbs ≤ (preS f (priceL fl) b).2.natAbs := Nat.gcd_le_right _ (by omega)
  have dv : ∀ x : Int, CDivW x ((Nat.gcd (preS f (priceL fl) b).1.natAbs (preS f (priceL fl) b).2.natAbs : Nat) : Int) := fun x => cdw (by omega) ((show Nb 200 _ from Nat.lt_of_le_of_lt (by rw [Int.natAbs_natCast]; exact gl) n4).mono (by decide))
  exact s_fin h7 (ev_tup (ed_cons (ev_divW (evd_var rfl) (evd_var rfl) (dv _)) (ed_cons (ev_divW (evd_var rfl) (evd_var rfl) (dv _)) ed_nil)) (by show 2 ≤ 100000; decide)) k
/-! ### scores_of, score, scores -/
def scoresD (f : List Tm) (fl : List Bid) : List PyData := fl.map fun b => pairD (scoreOf f fl b)
theorem range_map {α β : Type} (g : α → β) (d : β) (l : List α) : ((List.range l.length).map fun i => (l[i]?.map g).getD d) = l.map g := by
  apply List.ext_getElem?
  intro i
  rw [List.getElem?_map, List.getElem?_map]
  by_cases h : i < l.length
  · rw [List.getElem?_range h, List.getElem?_eq_getElem h]
    simp [List.getElem?_eq_getElem h]
  · rw [List.getElem?_eq_none (by simp; omega), List.getElem?_eq_none (by omega)]
    rfl
def Gscores_of (ds : List PyData) (es : List PyData) : Prop := ∃ (f : List Tm) (q : Bool) (fl : List Bid), FormOk f ∧ FieldOk fl ∧ ds = [formD f, sq q (fl.map Bid.d)] ∧ es = scoresD f fl
theorem okscores_of (T : Txt K mg) : FnOk P w K mg base CX0 8 T.ascores_of T.dscores_of ["formula", "field"] (spF K Gscores_of) := by
  refine pureOkF T.Fscores_of scscores_of (by rintro _ _ ⟨f, q, fl, _, _, rfl, _⟩; rfl) fun cdv A outer s H E hr => ⟨_, (pss_one (ps_ret (pe_lc (own := [("index", 2)]) (g := (gName 2)) (tt := tYes) (by rfl) scscores_of.nd (krg1 T.n_range (kpa (kB (r := rLenQ K) call_len_seq T.n_len (kpa (kvc 1) pa_nil)) pa_nil)) (blkOk_by (by kernel_rfl)) (fun _ _ _ _ _ => (kgl 2 scscores_of.nd)) (fun _ _ _ _ _ => pts_nil) (fun _ _ _ _ _ => (kcall (okscore_of T) (hr.mono (by decide)) T.g_score_of T.k_score_of T.b_score_of (kpa (kvc 0) (kpa (kvc 1) (kpa (kvl 2) pa_nil)))))))), ?_⟩
  rintro _ _ ⟨f, q, fl, of, ol, rfl, rfl⟩ ms σ H Q h k
  refine s_retF h (ef_lc0 (xs := List.range fl.length) (enc := fun i => .int (i : Nat)) (f := fun i => (fl[i]?.map fun b => pairD (scoreOf f fl b)).getD .none) ?_ (by rw [List.length_range]; have := ol.1; omega) fun i hi => ?_) (fun es p ws H' e => ?_)
  · have e : ((List.map Bid.d fl).length : Int).toNat = fl.length := by rw [List.length_map, Int.toNat_natCast]
    have sr := src_range (K := K) (W := W0) (ρ := slots 3 [formD f, sq q (fl.map Bid.d)]) (ed_cons (ev_lenS (b := q) (ds := fl.map Bid.d) (te := tVar 1) (evd_var rfl)) ed_nil) (by rw [List.length_map]; have := ol.1; omega) (by omega)
    rw [e] at sr
    exact sr
  · have hi' : i < fl.length := by simpa using hi
    have eb : fl[i]? = some fl[i] := List.getElem?_eq_getElem hi'
    rw [eb]
    exact ev_call (ed_cons (evd_var rfl) (ed_cons (evd_var rfl) (ed_cons (evd_var rfl) ed_nil))) ⟨f, q, fl, i, fl[i], of, ol, eb, rfl, rfl⟩
  · subst e
    intro s hp e2 o2
    rw [range_map] at o2
    exact k p ws H' s hp e2 o2
end
end Sc

/-! k69, 5: the law's own reckoning. -/
namespace Sc
open PySem L2 Fw
open PyProof.Rows (envOfC)
section
variable {P : Program} {w : World} {K : PySem.W.Frag} {mg : Str → Option Value} {base : Heap}
/-! ### _law_over -/
def G_law_over (ds : List PyData) (d : PyData) : Prop := ∃ (f : List Tm) (fl : List Bid) (i : Nat) (b : Bid), FormOk f ∧ FieldOk fl ∧ fl[i]? = some b ∧ ds = [formD f, .list (fl.map Bid.d), .int (i : Int)] ∧ d = pairD (lawOver f (priceL fl) b)
theorem over_snoc {f : List Tm} {ps : List Int} {b : Bid} {i : Nat} {t : Tm} (e : f[i]? = some t) : lawOver (f.take (i + 1)) ps b = lstep ps b (lawOver (f.take i) ps b) t := by
  unfold lawOver
  rw [take_more e, List.foldl_append]
  rfl
theorem ok_law_over (T : Txt K mg) : FnOk P w K mg base CX0 1 T.a_law_over T.d_law_over ["formula", "field", "index"] (spP K G_law_over) := by
  refine pureOk T.F_law_over sc_law_over (by rintro _ _ ⟨f, fl, i, b, _, _, _, rfl, _⟩; rfl) fun cdv A outer s H E hr => ⟨_, (pss_cons (kasg (pe_tup (kpa (pe_lc (own := [("bid", 7)]) (g := (gName 7)) (tt := tYes) (by rfl) sc_law_over.nd (show PI _ _ _ (iList K _) from pi_list (kvl 1)) (blkOk_by (by kernel_rfl)) (fun _ _ _ _ _ => (kgl 7 sc_law_over.nd)) (fun _ _ _ _ _ => pts_nil) (fun _ _ _ _ _ => (pe_ix (r := rIxT K) ix_tup (kvl 7) pe_int (fun _ _ => rfl)))) (kpa (pe_ix (r := rIxL K) ix_list (kvl 1) (kvl 2) (fun _ _ => rfl)) pa_nil))) (kgt (n := 2) (by rfl) (kgs (kgl 3 sc_law_over.nd) (kgs (kgt (n := 3) (by rfl) (kgs (kgl 4 sc_law_over.nd) (kgs (kgl 5 sc_law_over.nd) (kgs (kgl 6 sc_law_over.nd) pgs_nil)))) pgs_nil))))
      (pss_cons (kasg (pe_tup (kpa (kB (r := rMin K) (cr_min rfl) T.n_min (kpa (kvl 3) pa_nil)) (kpa (kB (r := rMax K) (cr_max rfl) T.n_max (kpa (kvl 3) pa_nil)) (kpa pe_int (kpa pe_int pa_nil))))) (kgt (n := 4) (by rfl) (kgs (kgl 8 sc_law_over.nd) (kgs (kgl 9 sc_law_over.nd) (kgs (kgl 10 sc_law_over.nd) (kgs (kgl 11 sc_law_over.nd) pgs_nil))))))
      (pss_cons (ps_for PassesOwn.never rfl (show PI _ _ _ (iTup K _) from pi_tup (kvl 0)) (kgl 12 sc_law_over.nd) (pss_cons (ps_if (pt_cmpR op_eq (pe_ix (r := rIxT K) ix_tup (kvl 12) pe_int (fun _ _ => rfl)) pe_str (nomark _)) (pss_one (kpar (i := 13) (j := 14) (by rfl) sc_law_over.nd (by decide) (kpa (pe_op op_mulW (pe_ix (r := rIxT K) ix_tup (kvl 12) pe_int (fun _ _ => rfl)) (pe_ix (r := rIxT K) ix_tup (kvl 6) (pe_ix (r := rIxT K) ix_tup (kvl 12) pe_int (fun _ _ => rfl)) (fun _ _ => rfl))) (kpa pe_int pa_nil)))) (pss_one (ps_if (pt_cmpR op_eq (pe_ix (r := rIxT K) ix_tup (kvl 12) pe_int (fun _ _ => rfl)) pe_str (nomark _)) (pss_one (kpar (i := 13) (j := 14) (by rfl) sc_law_over.nd (by decide) (kpa (pe_op op_mulW (pe_ix (r := rIxT K) ix_tup (kvl 12) pe_int (fun _ _ => rfl)) (kvl 8)) (kpa (kvl 5) pa_nil)))) (pss_one (ps_if (pt_cmpR op_eq (pe_ix (r := rIxT K) ix_tup (kvl 12) pe_int (fun _ _ => rfl)) pe_str (nomark _)) (pss_one (kasg (pe_ifExp (pt_cmpR op_eq (kvl 8) (kvl 9) (nomark _)) (pe_tup (kpa (pe_ix (r := rIxT K) ix_tup (kvl 12) pe_int (fun _ _ => rfl)) (kpa pe_int pa_nil))) (pe_tup (kpa (pe_op op_mulW (pe_ix (r := rIxT K) ix_tup (kvl 12) pe_int (fun _ _ => rfl)) (pe_op op_sub (kvl 9) (kvl 5))) (kpa (pe_op op_sub (kvl 9) (kvl 8)) pa_nil)))) (kgt (n := 2) (by rfl) (kgs (kgl 13 sc_law_over.nd) (kgs (kgl 14 sc_law_over.nd) pgs_nil))))) (pss_one (kpar (i := 13) (j := 14) (by rfl) sc_law_over.nd (by decide) (kpa (pe_op op_mulW (pe_ix (r := rIxT K) ix_tup (kvl 12) pe_int (fun _ _ => rfl)) (kB (r := rSum K) (cr_sum rfl) T.n_sum (kpa (kvl 3) pa_nil))) (kpa (pe_op op_mulW (kvl 5) (kB (r := rLenQ K) call_len_seq T.n_len (kpa (kvl 3) pa_nil))) pa_nil)))))))))
      (pss_one (kpar (i := 10) (j := 11) (by rfl) sc_law_over.nd (by decide) (kpa (pe_op op_add (pe_op op_mulW (kvl 10) (kvl 14)) (pe_op op_mulW (kvl 13) (kvl 11))) (kpa (pe_op op_mulW (kvl 11) (kvl 14)) pa_nil))))))
      (pss_one (ps_ret (pe_tup (kpa (kvl 10) (kpa (kvl 11) pa_nil)))))))), ?_⟩
  rintro _ _ ⟨f, fl, ix, b, of, ol, eb, rfl, rfl⟩ ms σ H Q h k
  have h : At K W0 ms ⟨H, H⟩ [.dat (formD f), .dat (.list (fl.map Bid.d)), .dat (.int (ix : Int)), .emp, .emp, .emp, .emp, .emp, .emp, .emp, .emp, .emp, .emp, .emp, .emp] σ H := h
  have mb : b ∈ fl := List.mem_of_getElem? eb
  have ob := ol.2 b mb
  have p := psOk ol mb
  refine q_tgt h (ev_tup (ed_cons (ev_lc0 (enc := Bid.d) (f := fun b => .int b.price) (src_list (evd_var rfl)) (by have := ol.1; omega) fun b hb => ev_ixT (evd_var rfl) ev_int rfl) (ed_cons (ev_ixL (d := b.d) (evd_var rfl) (evd_var rfl) (atI_nat (by rw [List.getElem?_map, eb]; rfl))) ed_nil)) (by show 2 ≤ 100000; decide))
    (tg_tup (tgs_cons tg_name (tgs_cons (tg_tup (tgs_cons tg_name (tgs_cons tg_name (tgs_cons tg_name tgs_nil))) rfl) tgs_nil)) rfl) fun σ1 H1 h1 _ => ?_
  dsimp only [List.set] at h1
  refine q_tgt h1 (ev_tup (ed_cons (ev_min (m := minL (priceL fl)) (evd_var rfl) (priceD fl) (minL_mem p.ne) fun y => minL_le) (ed_cons (ev_max (m := maxL (priceL fl)) (evd_var rfl) (priceD fl) (maxL_mem p.ne) fun y => maxL_le) (ed_cons ev_int (ed_cons ev_int ed_nil)))) (by show 4 ≤ 100000; decide))
    (tg_tup (tgs_cons tg_name (tgs_cons tg_name (tgs_cons tg_name (tgs_cons tg_name tgs_nil)))) rfl) fun σ2 H2 h2 _ => ?_
  dsimp only [List.set] at h2
  have el : ((fl.map fun b => PyData.int b.price).length : Int) = ((priceL fl).length : Int) := by unfold priceL; rw [List.length_map, List.length_map]
  have M : ∀ {a b : Nat} {x y : Int}, Nb a x → Nb b y → a ≤ 1000 → b ≤ 1000 → CMulW x y := fun h g i j => cmw (h.mono i) (g.mono j)
  have base : List Sl := []
  refine q_for h2 (R := fun i => [.dat (formD f), .dat (.list (fl.map Bid.d)), .dat (.int (ix : Int)), .dat (.list (fl.map fun b => .int b.price)), .dat (.str "bid"), .dat (.int b.price), .dat (.tuple (b.marks.map .int)), .emp, .dat (.int (minL (priceL fl))), .dat (.int (maxL (priceL fl))),
      .dat (.int (lawOver (f.take i) (priceL fl) b).1), .dat (.int (lawOver (f.take i) (priceL fl) b).2), .emp, .emp, .emp])
    (S := fun i => [.dat (formD f), .dat (.list (fl.map Bid.d)), .dat (.int (ix : Int)), .dat (.list (fl.map fun b => .int b.price)), .dat (.str "bid"), .dat (.int b.price), .dat (.tuple (b.marks.map .int)), .emp, .dat (.int (minL (priceL fl))), .dat (.int (maxL (priceL fl))),
      .dat (.int (lawOver (f.take i) (priceL fl) b).1), .dat (.int (lawOver (f.take i) (priceL fl) b).2), .dat (match f[i]? with | some t => t.d | none => .none), .emp, .emp])
    (X := fun _ _ => True) (src_tup (evd_var rfl)) (.same (.same (.same (.same (.same (.same (.same (.same (.same (.same (.same (.same (.emp (.emp (.emp .nil))))))))))))))) (fun _ _ _ => trivial) (fun i d hd => ⟨[12], ?_⟩) (fun Hb i d σ3 H3 hd h3 o3 => ?_) (fun σ3 H3 h3 o3 => ?_) (fun i H H' _ _ z => z)
  · rw [List.getElem?_map] at hd
    cases e : f[i]? with
    | none => rw [e] at hd; cases hd
    | some t =>
      rw [e] at hd
      cases hd
      exact tg_name
  · rw [List.getElem?_map] at hd
    cases e : f[i]? with
    | none => rw [e] at hd; cases hd
    | some t =>
      rw [e] at hd h3
      cases hd
      dsimp only at h3
      have ot := of.2 t (List.mem_of_getElem? e)
      obtain ⟨t1, t2⟩ := nb_tone p ob ot
      have ft : ∀ t ∈ f.take i, t.Ok := fun t ht => of.2 t (List.mem_of_mem_take ht)
      obtain ⟨n1, n2⟩ := nb_over p ob (f.take i) ft (Nat.le_trans (by rw [List.length_take]; exact Nat.min_le_right _ _) of.1)
      refine q_cut (M := fun σ' H' => At K W0 ms ⟨H, Hb⟩ [.dat (formD f), .dat (.list (fl.map Bid.d)), .dat (.int (ix : Int)), .dat (.list (fl.map fun b => .int b.price)), .dat (.str "bid"), .dat (.int b.price), .dat (.tuple (b.marks.map .int)), .emp, .dat (.int (minL (priceL fl))), .dat (.int (maxL (priceL fl))),
          .dat (.int (lawOver (f.take i) (priceL fl) b).1), .dat (.int (lawOver (f.take i) (priceL fl) b).2), .dat t.d, .dat (.int (tone (priceL fl) b t).1), .dat (.int (tone (priceL fl) b t).2)] σ' H') (fun Z hZ => ?_) fun σ4 H4 h4 => ?_
      · cases t with
        | mark kk x =>
          have hx : Nb 10 x := Nb.of (by have := ot.2.1; omega) (by have := ot.2.2; simp; omega)
          have hm : Nb 7 (b.marks[kk]?.getD 0) := Nb.of (mark_get ob kk).1 (by have := (mark_get ob kk).2; simp; omega)
          have em : (b.marks.map PyData.int)[kk]? = some (.int (b.marks[kk]?.getD 0)) := by
            have hk : kk < b.marks.length := by rw [ob.len]; exact ot.1
            rw [List.getElem?_map, List.getElem?_eq_getElem hk]
            rfl
          refine s_if (b := true) h3 (et_eq (et_test (ev_eqS (ev_ixT (evd_var rfl) ev_int rfl) ev_str)) (by simp)) (fun _ H4 h4 _ => ?_) (fun q => nomatch q)
          exact s_par h4 (ea_cons (ev_mulW (ev_ixT (d := .int x) (evd_var rfl) ev_int rfl) (ev_ixT (evd_var rfl) (ev_ixT (d := .int (kk : Int)) (evd_var rfl) ev_int rfl) (atI_nat em)) (M hx hm (by decide) (by decide))) (ea_cons ev_int ea_nil)) fun σ5 H5 h5 _ => hZ _ _ h5
        | rel r x =>
          have hx : Nb 10 x := Nb.of (by have := ot.1; omega) (by have := ot.2; simp; omega)
          refine s_if (b := false) h3 (et_eq (et_test (ev_eqS (ev_ixT (evd_var rfl) ev_int rfl) ev_str)) (rel_ne r)) (fun q => nomatch q) fun _ H4 h4 _ => ?_
          cases r with
          | low =>
            refine s_if (b := true) h4 (et_eq (et_test (ev_eqS (ev_ixT (d := .str "low") (evd_var rfl) ev_int rfl) ev_str)) (by simp)) (fun _ H5 h5 _ => ?_) (fun q => nomatch q)
            exact s_par h5 (ea_cons (ev_mulW (ev_ixT (d := .int x) (evd_var rfl) ev_int rfl) (evd_var rfl) (M hx p.nbmin (by decide) (by decide))) (ea_cons (evd_var rfl) ea_nil)) fun σ6 H6 h6 _ => hZ _ _ h6
          | range =>
            refine s_if (b := false) h4 (et_eq (et_test (ev_eqS (ev_ixT (d := .str "range") (evd_var rfl) ev_int rfl) ev_str)) (by decide +kernel)) (fun q => nomatch q) fun _ H5 h5 _ => ?_
            refine s_if (b := true) h5 (et_eq (et_test (ev_eqS (ev_ixT (d := .str "range") (evd_var rfl) ev_int rfl) ev_str)) (by simp)) (fun _ H6 h6 _ => ?_) (fun q => nomatch q)
            refine s_tgt (d := pairD (tone (priceL fl) b (.rel .range x))) h6 (ev_if (b := decide (minL (priceL fl) = maxL (priceL fl))) (et_test (ev_eqI (evd_var rfl) (evd_var rfl)))
              (fun c => evd_eq (ev_tup (ed_cons (ev_ixT (d := .int x) (evd_var rfl) ev_int rfl) (ed_cons ev_int ed_nil)) (by show 2 ≤ 100000; decide)) (by simp only [tone]; rw [if_pos (of_decide_eq_true c)]; rfl))
              (fun c => evd_eq (ev_tup (ed_cons (ev_mulW (ev_ixT (d := .int x) (evd_var rfl) ev_int rfl) (ev_sub (evd_var rfl) (evd_var rfl)) (M hx (p.nbmax.sub p.nbp) (by decide) (by decide))) (ed_cons (ev_sub (evd_var rfl) (evd_var rfl)) ed_nil)) (by show 2 ≤ 100000; decide)) (by simp only [tone]; rw [if_neg (of_decide_eq_false c)]; rfl)))
              (tg_tup (tgs_cons tg_name (tgs_cons tg_name tgs_nil)) rfl) fun σ7 H7 h7 _ => hZ _ _ h7
          | mean =>
            refine s_if (b := false) h4 (et_eq (et_test (ev_eqS (ev_ixT (d := .str "mean") (evd_var rfl) ev_int rfl) ev_str)) (by decide +kernel)) (fun q => nomatch q) fun _ H5 h5 _ => ?_
            refine s_if (b := false) h5 (et_eq (et_test (ev_eqS (ev_ixT (d := .str "mean") (evd_var rfl) ev_int rfl) ev_str)) (by decide +kernel)) (fun q => nomatch q) fun _ H6 h6 _ => ?_
            exact s_par h6 (ea_cons (ev_mulW (ev_ixT (d := .int x) (evd_var rfl) ev_int rfl) (ev_sum (evd_var rfl) (priceD fl)) (M hx p.nbsum (by decide) (by decide))) (ea_cons (ev_mulW (evd_var rfl) (evd_eq (ev_lenL (evd_var rfl)) (by rw [el])) (M p.nbp p.nbn (by decide) (by decide))) ea_nil)) fun σ7 H7 h7 _ => hZ _ _ h7
      · refine s_par h4 (ea_cons (ev_add (ev_mulW (evd_var rfl) (evd_var rfl) (M n1 t2 (by decide) (by decide))) (ev_mulW (evd_var rfl) (evd_var rfl) (M t1 n2 (by decide) (by decide)))) (ea_cons (ev_mulW (evd_var rfl) (evd_var rfl) (M n2 t2 (by decide) (by decide))) ea_nil)) fun σ5 H5 h5 _ => ⟨?_, trivial⟩
        dsimp only [List.set] at h5
        rw [over_snoc e]
        exact h5.le (.same (.same (.same (.same (.same (.same (.same (.same (.same (.same (.same (.same (.emp (.emp (.emp .nil)))))))))))))))
  · have e : (f.map Tm.d).length = f.length := List.length_map _
    rw [e, List.take_length] at h3
    exact s_fin h3 (ev_tup (ed_cons (evd_var rfl) (ed_cons (evd_var rfl) ed_nil)) (by show 2 ≤ 100000; decide)) k
end
end Sc

/-! k69, 6: the draws. -/
namespace Sc
open PySem L2 Fw
open PyProof.Rows (envOfC)
section
variable {P : Program} {w : World} {K : PySem.W.Frag} {mg : Str → Option Value} {base : Heap} {A : DrawA} {ms : List Addr} {B : Bs} {ρ : List Sl} {σ : L2.St} {H : Hp} {D : Ends} {tz : TS} {tv te : TE} {i : Nat} {E : XK}
theorem qq_putRest (a : At K (DW K A) ms B ρ σ H) (h : ρ[i]? = some (.raw (.ref A.d))) (e : En K (DW K A) tv ρ (IsI fun _ => True)) (k : ∀ H', At K (DW K A) ms B ρ σ H' → tz D σ H') : tSeq (sDPut (tVar i) (tC (.str "rest")) tv) tz D σ H := q_putRest (D := { D with nx := tz D }) a h e k
theorem qq_putTurn (a : At K (DW K A) ms B ρ σ H) (h : ρ[i]? = some (.raw (.ref A.d))) (e : En K (DW K A) tv ρ (IsI fun _ => True)) (k : ∀ H', At K (DW K A) ms B ρ σ H' → tz D σ H') : tSeq (sDPut (tVar i) (tC (.str "turn")) tv) tz D σ H := q_putTurn (D := { D with nx := tz D }) a h e k
theorem paired_len {α : Type} {Φ : α → PyData → Prop} : ∀ {xs : List α} {es : List PyData}, Paired Φ xs es → xs.length = es.length
  | _, _, .nil => rfl
  | _, _, .cons _ t => by rw [List.length_cons, List.length_cons, paired_len t]
theorem paired_all {α : Type} {Φ : α → PyData → Prop} : ∀ {xs : List α} {es : List PyData}, Paired Φ xs es → ∀ {y : PyData}, y ∈ es → ∃ x, Φ x y
  | _, _, .nil, _, h => absurd h List.not_mem_nil
  | _, _, .cons a t, y, h => (List.mem_cons.mp h).elim (fun q => ⟨_, q ▸ a⟩) fun q => paired_all t q
/-! ### _law_mixed -/
def greats : List PyData := [.int 2147483629, .int 2147483587, .int 2147483579]
theorem great_of {i : Nat} {d : PyData} (h : greats[i]? = some d) : ∃ g : Int, d = .int g ∧ 2147483579 ≤ g ∧ g ≤ 2147483629 := by
  have m := List.mem_of_getElem? h
  simp only [greats, List.mem_cons, List.not_mem_nil, or_false] at m
  rcases m with rfl | rfl | rfl
  · exact ⟨_, rfl, by decide, by decide⟩
  · exact ⟨_, rfl, by decide, by decide⟩
  · exact ⟨_, rfl, by decide, by decide⟩
def Pm (ds : List PyData) : Prop := ds = []
def Gm (_ : List PyData) (d : PyData) : Prop := ∃ n : Int, d = .int n
theorem ok_law_mixed (T : Txt K mg) : FnOk P w K mg base CX0 1 T.a_law_mixed T.d_law_mixed ["draw"] (spN K Pm Gm) := by
  refine drawOk T.F_law_mixed sc_law_mixed (by rintro _ rfl; rfl) fun cdv A outer s H E hr => ⟨_, (pss_cons (ps_dput (hu_of hr) (kvl 0) pe_str (pe_op op_add (pe_dget (hu_of hr) (kvl 0) pe_str (fun _ _ => rfl)) pe_int) rfl)
      (pss_cons (kpar (i := 1) (j := 2) (by rfl) sc_law_mixed.nd (by decide) (kpa (kTy call_int1 T.n_int (kpa (pe_dget (hu_of hr) (kvl 0) pe_str (fun _ _ => rfl)) pa_nil)) (kpa pe_int pa_nil)))
      (pss_cons (ps_for PassesOwn.never rfl (show PI _ _ _ (iList K _) from pi_list (pe_lst (kpa pe_int (kpa pe_int (kpa pe_int pa_nil))))) (kgl 3 sc_law_mixed.nd) (pss_cons (ksl 4 sc_law_mixed.nd (pe_op op_mod (kTy call_int1 T.n_int (kpa (pe_op op_add (pe_op op_mul (kvl 1) pe_int) (pe_op op_fdivW (kvl 3) pe_int)) pa_nil)) (kvl 3)))
      (pss_cons (ps_for PassesOwn.never rfl (show PI _ _ _ (iList K _) from pi_list (pe_dget (hu_of hr) (kvl 0) pe_str (fun _ _ => rfl))) (kgl 5 sc_law_mixed.nd) (pss_one (ksl 4 sc_law_mixed.nd (pe_op op_mod (kTy call_int1 T.n_int (kpa (pe_op op_add (pe_op op_add (pe_op op_mul (kvl 4) pe_int) (kTy call_int1 T.n_int (kpa (kvl 5) pa_nil))) pe_int) pa_nil)) (kvl 3)))))
      (pss_one (ksl 2 sc_law_mixed.nd (pe_op op_add (pe_op op_mul (kvl 2) pe_int) (pe_op op_mod (kTy call_int1 T.n_int (kpa (pe_op op_pow (kvl 4) pe_int) pa_nil)) (kvl 3))))))))
      (pss_one (ps_ret (kvl 2)))))), ?_⟩
  rintro _ rfl A ms σ H Q h k
  have h : At K (DW K A) ms ⟨H, H⟩ [.raw (.ref A.d), .emp, .emp, .emp, .emp, .emp] σ H := h
  refine qq_putTurn h rfl (en_I0 (Ψ := fun _ => True) (en_turn rfl) (en_int (Ψ := fun _ => True) trivial) (fun _ _ _ _ => trivial)) fun H1 h1 => ?_
  refine q_parN h1 (en_toInt (en_turn rfl)) (en_int (Ψ := fun _ => True) trivial) fun s1 s2 σ2 H2 p1 p2 h2 => ?_
  obtain ⟨t, rfl, _⟩ := p1
  obtain ⟨f0, rfl, _⟩ := p2
  dsimp only [List.set] at h2
  refine q_forE (α := Int) (R := fun i p => [.raw (.ref A.d), .dat (.int t), .dat (.int p), .emp, .emp, .emp]) (S := fun i p => [.raw (.ref A.d), .dat (.int t), .dat (.int p), .dat (greats[i]?.getD .none), .emp, .emp]) (X := fun _ _ _ => True) f0 h2 (ds := greats)
    (src_list (ev_lst (ed_cons ev_int (ed_cons ev_int (ed_cons ev_int ed_nil))) (by show 3 ≤ 100000; decide))) (Le.refl _) (fun _ _ _ => trivial) (fun i p d hd => ⟨[3], ?_⟩) (fun Hb i p d σ3 H3 hd h3 _ => ?_) (fun p σ3 H3 h3 _ => ?_) (fun _ _ _ _ _ _ z => z)
  · rw [hd]
    exact tg_name
  · obtain ⟨g, rfl, g1, g2⟩ := great_of hd
    dsimp only at h3
    rw [hd] at h3
    have h3 : At K (DW K A) ms ⟨H, Hb⟩ [.raw (.ref A.d), .dat (.int t), .dat (.int p), .dat (.int g), .emp, .emp] σ3 H3 := h3
    refine q_asg h3 (ev_mod (ev_toInt (ev_add (ev_mul (evd_var rfl) ev_int (.inr (by decide))) (ev_divW (evd_var rfl) ev_int (cdw (by decide) (Nb.of (by decide) (by decide)))))) (evd_var rfl) (by omega)) fun σ4 H4 h4 _ => ?_
    dsimp only [List.set] at h4
    refine q_forE (α := Int) (R := fun i q => [.raw (.ref A.d), .dat (.int t), .dat (.int p), .dat (.int g), .dat (.int q), .emp]) (S := fun i q => [.raw (.ref A.d), .dat (.int t), .dat (.int p), .dat (.int g), .dat (.int q), .dat ((A.cells.map PyData.int)[i]?.getD .none)]) (X := fun _ q _ => 0 ≤ q ∧ q < g) _ h4
      (src_list (ev_cells rfl)) (Le.refl _) (fun _ _ _ => ⟨Int.emod_nonneg _ (by omega), Int.emod_lt_of_pos _ (by omega)⟩) (fun i q d hd => ⟨[5], ?_⟩) (fun Hb i q d σ5 H5 hd h5 o5 => ?_) (fun q σ5 H5 h5 o5 => ?_) (fun _ _ _ _ _ _ z => z)
    · rw [hd]
      exact tg_name
    · rw [hd] at h5
      rw [List.getElem?_map] at hd
      cases ec : A.cells[i]? with
      | none => rw [ec] at hd; cases hd
      | some c =>
        rw [ec] at hd
        cases hd
        have h5 : At K (DW K A) ms ⟨H, Hb⟩ [.raw (.ref A.d), .dat (.int t), .dat (.int p), .dat (.int g), .dat (.int q), .dat (.int c)] σ5 H5 := h5
        refine s_asg h5 (ev_mod (ev_toInt (ev_add (ev_add (ev_mul (evd_var rfl) ev_int (.inr (by decide))) (ev_toInt (evd_var rfl))) ev_int)) (evd_var rfl) (by omega)) fun σ6 H6 h6 _ => ?_
        dsimp only [List.set] at h6
        exact ⟨_, h6.le (.same (.same (.same (.same (.same (.emp .nil)))))), Int.emod_nonneg _ (by omega), Int.emod_lt_of_pos _ (by omega)⟩
    · refine s_asg h5 (ev_add (ev_mul (evd_var rfl) ev_int (.inr (by decide))) (ev_mod (ev_toInt (ev_pow (evd_var rfl) ev_int ⟨by decide, by decide, by have := o5.1; have := o5.2; omega⟩)) (evd_var rfl) (by omega))) fun σ6 H6 h6 _ => ?_
      dsimp only [List.set] at h6
      exact ⟨_, h6.le (.same (.same (.same (.emp (.emp (.emp .nil)))))), trivial⟩
  · exact s_fin h3 (evd_var rfl) fun v H' a o => k _ v H' ⟨_, rfl⟩ a o
/-! ### _law_take -/
def Pt (ds : List PyData) : Prop := ∃ m : Int, 0 < m ∧ Nb 1000 m ∧ ds = [.int m]
def Gt (ds : List PyData) (d : PyData) : Prop := ∃ m n : Int, ds = [.int m] ∧ d = .int n ∧ 0 ≤ n ∧ n < m
theorem ok_law_take (T : Txt K mg) : FnOk P w K mg base CX0 2 T.a_law_take T.d_law_take ["draw", "many"] (spN K Pt Gt) := by
  refine drawOk T.F_law_take sc_law_take (by rintro _ ⟨m, _, _, rfl⟩; rfl) fun cdv A outer s H E hr => ⟨_, (pss_cons (ps_if (pt_cmpR op_eq (pe_dget (hu_of hr) (kvl 0) pe_str (fun _ _ => rfl)) pe_int (nomark _)) (pss_one (ps_dput (hu_of hr) (kvl 0) pe_str (pe_ifExp (pt_cmpR (r := rNeD K) (op_neD hr.units) (pe_dget (hu_of hr) (kvl 0) pe_str (fun _ _ => rfl)) (pe_lst pa_nil) (nomark _)) (show PE _ _ (tBM K "list" _ _ _) from kmeth PySem.F.plainAttrs_list PySem.F.slot_list_pop PySem.F.type_list_pop mt_popAt (pe_dget (hu_of hr) (kvl 0) pe_str (fun _ _ => rfl)) (kpa pe_int pa_nil)) (kcall (ok_law_mixed T) (hr.mono (by decide)) T.g__law_mixed T.k__law_mixed T.b__law_mixed (kpa (kvl 0) pa_nil))) rfl)) pss_nil)
      (pss_cons (ksl 2 sc_law_take.nd (pe_op op_mod (kTy call_int1 T.n_int (kpa (pe_dget (hu_of hr) (kvl 0) pe_str (fun _ _ => rfl)) pa_nil)) (kvl 1)))
      (pss_cons (ps_dput (hu_of hr) (kvl 0) pe_str (pe_op op_fdivW (kTy call_int1 T.n_int (kpa (pe_dget (hu_of hr) (kvl 0) pe_str (fun _ _ => rfl)) pa_nil)) (kvl 1)) rfl)
      (pss_one (ps_ret (kvl 2)))))), ?_⟩
  rintro _ ⟨m, hm, nm, rfl⟩ A ms σ H Q h k
  have h : At K (DW K A) ms ⟨H, H⟩ [.raw (.ref A.d), .dat (.int m), .emp] σ H := h
  refine q_cut (M := fun σ' H' => At K (DW K A) ms ⟨H, H⟩ [.raw (.ref A.d), .dat (.int m), .emp] σ' H') (fun Z hZ => ?_) fun σ1 H1 h1 => ?_
  · refine s_ifN h (en_eqI (en_rest rfl) ev_int) (fun _ H1 h1 => ?_) (fun _ H1 h1 => hZ _ _ h1)
    exact q_putRest h1 rfl (en_next rfl (isi_of (en_callN rfl end_nil fun _ e => e) fun d ⟨_, _, n, e⟩ => ⟨n, e, trivial⟩)) fun H2 h2 => hZ _ _ h2
  · refine q_asgN h1 (en_I (Ψ := fun n => 0 ≤ n ∧ n < m) (en_toInt (en_rest rfl)) (en_evi (Ψ := (· = m)) (evd_var rfl) rfl) (fun i j _ e => by rw [show j = m from e]; exact hm) (fun i j _ e => by rw [show j = m from e]; exact ⟨Int.emod_nonneg _ (by omega), Int.emod_lt_of_pos _ hm⟩)) fun s σ2 H2 p2 h2 => ?_
    obtain ⟨n, rfl, b⟩ := p2
    dsimp only [List.set] at h2
    exact qq_putRest h2 rfl (en_I (Ψ := fun _ => True) (en_toInt (en_rest rfl)) (en_evi (Ψ := (· = m)) (evd_var rfl) rfl) (fun i j _ e => by rw [show j = m from e]; exact cdw hm nm) (fun _ _ _ _ => trivial)) fun H3 h3 => s_fin h3 (evd_var rfl) fun v H' a o => k _ v H' ⟨m, n, rfl, rfl, b⟩ a o
theorem en_take {m : Int} (h : ρ[i]? = some (.raw (.ref A.d))) (e : Evd K (DW K A) te ρ (.int m)) (hm : 0 < m) (nm : Nb 1000 m) : En K (DW K A) (tCall (spN K Pt Gt) [] E (tCons (tVar i) (tCons te tNil))) ρ (IsI fun n => 0 ≤ n ∧ n < m) :=
  isi_of (en_callN h (end_of (ed_cons e ed_nil) (Ψ := (· = [.int m])) rfl) fun _ q => ⟨m, hm, nm, q⟩) fun d ⟨ds, q, m', n, e1, e2, b⟩ => by
    rw [show ds = [.int m] from q] at e1
    cases e1
    exact ⟨n, e2, b⟩
/-! ### _law_pick -/
def Pp (ds : List PyData) : Prop := ∃ xs : List PyData, xs ≠ [] ∧ xs.length ≤ 100000 ∧ ds = [.list xs]
def Gp (ds : List PyData) (d : PyData) : Prop := ∃ xs : List PyData, ds = [.list xs] ∧ d ∈ xs
theorem ok_law_pick (T : Txt K mg) : FnOk P w K mg base CX0 3 T.a_law_pick T.d_law_pick ["draw", "some"] (spN K Pp Gp) := by
  refine drawOk T.F_law_pick sc_law_pick (by rintro _ ⟨m, _, _, rfl⟩; rfl) fun cdv A outer s H E hr => ⟨_, (pss_one (ps_ret (pe_ix (r := rIxL K) ix_list (kvl 1) (kcall (ok_law_take T) (hr.mono (by decide)) T.g__law_take T.k__law_take T.b__law_take (kpa (kvl 0) (kpa (kB (r := rLenQ K) call_len_seq T.n_len (kpa (kvl 1) pa_nil)) pa_nil))) (fun _ _ => rfl)))), ?_⟩
  rintro _ ⟨xs, hx, hl, rfl⟩ A ms σ H Q h k
  have h : At K (DW K A) ms ⟨H, H⟩ [.raw (.ref A.d), .dat (.list xs)] σ H := h
  have hp : 0 < xs.length := List.length_pos_iff.mpr hx
  refine s_retN h (en_ixL (evd_var rfl) (en_take rfl (ev_lenL (evd_var rfl)) (by omega) ((Nb.of (n := 17) (by omega) (Int.lt_of_le_of_lt (b := 100000) (by omega) (by decide))).mono (by decide))) fun n q => q) fun s v H' p a o => ?_
  obtain ⟨d, rfl, m⟩ := p
  exact k d v H' ⟨xs, rfl, m⟩ a o
theorem en_pick {Ψ : List PyData → Prop} (h : ρ[i]? = some (.raw (.ref A.d))) (e : En K (DW K A) te ρ (IsD fun d => ∃ xs, d = .list xs ∧ Ψ xs)) (hp : ∀ xs, Ψ xs → xs ≠ [] ∧ xs.length ≤ 100000) : En K (DW K A) (tCall (spN K Pp Gp) [] E (tCons (tVar i) (tCons te tNil))) ρ (IsD fun d => ∃ xs, Ψ xs ∧ d ∈ xs) :=
  (en_callN h (end_one e) fun ds ⟨d, q, xs, q2, ψ⟩ => ⟨xs, (hp xs ψ).1, (hp xs ψ).2, by rw [q, q2]⟩).isd fun d ⟨ds, ⟨d', q, xs, q2, ψ⟩, xs', e1, m⟩ => by
    rw [q, q2] at e1
    cases e1
    exact ⟨xs, ψ, m⟩
/-! ### _law_price -/
def PrOk (d : PyData) : Prop := ∃ n : Int, d = .int n ∧ 1 ≤ n ∧ n ≤ 1000000000
theorem ok_law_price (T : Txt K mg) : FnOk P w K mg base CX0 4 T.a_law_price T.d_law_price ["draw"] (spN K Pm fun _ => PrOk) := by
  refine drawOk T.F_law_price sc_law_price (by rintro _ rfl; rfl) fun cdv A outer s H E hr => ⟨_, (pss_one (ps_ret (kcall (ok_law_pick T) (hr.mono (by decide)) T.g__law_pick T.k__law_pick T.b__law_pick (kpa (kvl 0) (kpa (pe_lst (kpa (pe_op op_add pe_int (kcall (ok_law_take T) (hr.mono (by decide)) T.g__law_take T.k__law_take T.b__law_take (kpa (kvl 0) (kpa pe_int pa_nil)))) (kpa (pe_op op_add pe_int (kcall (ok_law_take T) (hr.mono (by decide)) T.g__law_take T.k__law_take T.b__law_take (kpa (kvl 0) (kpa pe_int pa_nil)))) (kpa (pe_op op_add pe_int (kcall (ok_law_take T) (hr.mono (by decide)) T.g__law_take T.k__law_take T.b__law_take (kpa (kvl 0) (kpa (pe_op op_pow pe_int pe_int) pa_nil)))) (kpa (pe_op op_sub (pe_op op_pow pe_int pe_int) (kcall (ok_law_take T) (hr.mono (by decide)) T.g__law_take T.k__law_take T.b__law_take (kpa (kvl 0) (kpa pe_int pa_nil)))) pa_nil))))) pa_nil))))), ?_⟩
  rintro _ rfl A ms σ H Q h k
  have h : At K (DW K A) ms ⟨H, H⟩ [.raw (.ref A.d)] σ H := h
  have small : ∀ n : Int, 0 ≤ n → n ≤ 1000000000 → Nb 1000 n := fun n h0 h1 => (Nb.of (n := 30) h0 (Int.lt_of_le_of_lt h1 (by decide))).mono (by decide)
  have pw : Evd K (DW K A) (tOp (rI CPow fun i j => .int (i ^ j.toNat)) (tC (.int 10)) (tC (.int 9))) [.raw (.ref A.d)] (.int 1000000000) := evd_eq (ev_pow ev_int ev_int ⟨by decide, by decide, by decide⟩) (congrArg PyData.int (by decide +kernel))
  refine s_retN h (en_pick rfl (en_lst (Ψ := fun ds => ds.length = 4 ∧ ∀ d ∈ ds, PrOk d) (end_all1 (isd_of (en_I0 (Ψ := fun n => 1 ≤ n ∧ n ≤ 1000000000) (en_int (Ψ := (· = 1)) rfl) (en_take rfl ev_int (by decide) (small _ (by decide) (by decide))) (fun i j a b => by subst a; omega)) fun n q => ⟨n, rfl, q⟩)
    (end_all1 (isd_of (en_I0 (Ψ := fun n => 1 ≤ n ∧ n ≤ 1000000000) (en_int (Ψ := (· = 100)) rfl) (en_take rfl ev_int (by decide) (small _ (by decide) (by decide))) (fun i j a b => by subst a; omega)) fun n q => ⟨n, rfl, q⟩)
    (end_all1 (isd_of (en_I0 (Ψ := fun n => 1 ≤ n ∧ n ≤ 1000000000) (en_int (Ψ := (· = 1)) rfl) (en_take rfl pw (by decide) (small _ (by decide) (by decide))) (fun i j a b => by subst a; omega)) fun n q => ⟨n, rfl, q⟩)
    (end_all1 (isd_of (en_I0 (Ψ := fun n => 1 ≤ n ∧ n ≤ 1000000000) (en_evi (Ψ := (· = 1000000000)) pw rfl) (en_take rfl ev_int (by decide) (small _ (by decide) (by decide))) (fun i j a b => by subst a; omega)) fun n q => ⟨n, rfl, q⟩)
    end_all0)))) fun ds q => by rw [q.1]; decide) fun xs q => ⟨fun z => by rw [z] at q; exact absurd q.1 (by decide), by rw [q.1]; decide⟩) fun s v H' p a o => ?_
  obtain ⟨d, rfl, xs, q, m⟩ := p
  exact k d v H' (q.2 d m) a o
/-! ### _law_bid -/
theorem ok_law_bid (T : Txt K mg) : FnOk P w K mg base CX0 5 T.a_law_bid T.d_law_bid ["draw"] (spN K Pm fun _ d => ∃ b : Bid, b.Ok ∧ d = b.d) := by
  refine drawOk T.F_law_bid sc_law_bid (by rintro _ rfl; rfl) fun cdv A outer s H E hr => ⟨_, (pss_cons (ksc 1 sc_law_bid.nd (kcall (ok_law_pick T) (hr.mono (by decide)) T.g__law_pick T.k__law_pick T.b__law_pick (kpa (kvc 0) (kpa (pe_lst (kpa pe_int (kpa pe_int (kpa pe_int pa_nil)))) pa_nil))))
      (pss_one (ps_ret (pe_tup (kpa pe_str (kpa (kcall (ok_law_price T) (hr.mono (by decide)) T.g__law_price T.k__law_price T.b__law_price (kpa (kvc 0) pa_nil)) (kpa (kTy (r := rTupOf K) call_tuple_of T.n_tuple (kpa (pe_lc (own := [("k", 2)]) (g := (gName 2)) (tt := tYes) (by rfl) sc_law_bid.nd (krg1 T.n_range (kpa pe_int pa_nil)) (blkOk_by (by kernel_rfl)) (fun _ _ _ _ _ => (kgl 2 sc_law_bid.nd)) (fun _ _ _ _ _ => pts_nil) (fun _ _ _ _ _ => (kcall (ok_law_take T) (hr.mono (by decide)) T.g__law_take T.k__law_take T.b__law_take (kpa (kvc 0) (kpa (kvc 1) pa_nil))))) pa_nil)) pa_nil))))))), ?_⟩
  rintro _ rfl A ms σ H Q h k
  have h : At K (DW K A) ms ⟨H, H⟩ [.raw (.ref A.d), .emp, .emp] σ H := h
  refine q_asgN h (en_pick rfl (isd_evd (d := .list [.int 2, .int 4, .int 101]) (ev_lst (ed_cons ev_int (ed_cons ev_int (ed_cons ev_int ed_nil))) (by show 3 ≤ 100000; decide)) ⟨_, rfl, (show (fun xs => xs = [PyData.int 2, .int 4, .int 101]) _ from rfl)⟩) fun xs q => by subst q; exact ⟨by simp, by decide⟩) fun s σ1 H1 p1 h1 => ?_
  obtain ⟨d, rfl, xs, q, m⟩ := p1
  obtain ⟨n, rfl, n0, n1⟩ : ∃ n : Int, d = .int n ∧ 0 < n ∧ n ≤ 101 := by
    subst q
    simp only [List.mem_cons, List.not_mem_nil, or_false] at m
    rcases m with rfl | rfl | rfl
    · exact ⟨_, rfl, by decide, by decide⟩
    · exact ⟨_, rfl, by decide, by decide⟩
    · exact ⟨_, rfl, by decide, by decide⟩
  dsimp only [List.set] at h1
  refine s_retN h1 (en_tup (end_cons (Ψ1 := (· = .str "bid")) (isd_evd ev_str rfl) (end_cons (Ψ1 := PrOk) ((en_callN rfl end_nil fun _ e => e).isd fun d ⟨_, _, q⟩ => q) (end_one (P := fun d => ∃ ds : List PyData, d = .tuple ds ∧ ds.length = 4 ∧ ∀ x ∈ ds, ∃ z : Int, x = .int z ∧ 0 ≤ z ∧ z ≤ 100) (en_tupL ?_)))) fun ds ⟨_, _, e1, _, _, _, e2, _, _, e3, _⟩ => by rw [e1, e2, e3]; show 3 ≤ 100000; decide) fun s v H' p a o => ?_
  · refine (en_lc (xs := List.range (4 : Int).toNat) (enc := fun i => PyData.int (i : Nat)) (p := fun _ => true) (Φ := fun _ d => ∃ z : Int, d = .int z ∧ 0 ≤ z ∧ z < n) (S := fun i => [.raw (.ref A.d), .dat (.int n), .dat (.int (i : Nat))]) (src_range (ed_cons ev_int ed_nil) (by decide) (by decide)) (by decide) (fun x _ => ⟨[2], tg_name, by decide⟩) (fun _ _ => et_yes)
      fun x _ _ => (en_take rfl (evd_var rfl) n0 ((Nb.of (n := 30) (by omega) (Int.lt_of_le_of_lt n1 (by decide))).mono (by decide))).imp fun s ⟨z, e, b⟩ => ⟨_, e, z, rfl, b⟩).imp fun s ⟨es, e, pr⟩ => ⟨_, e, es, rfl, ?_, ?_⟩
    · rw [← paired_len pr]; decide
    · intro x hx
      obtain ⟨_, z, e, b⟩ := paired_all pr hx
      exact ⟨z, e, by omega⟩
  · obtain ⟨d, rfl, ds, rfl, d1, e1, rfl, rfl, d2, e2, rfl, ⟨pz, rfl, b1, b2⟩, d3, rfl, es, rfl, l4, al⟩ := p
    obtain ⟨mk, rfl, mb⟩ : ∃ mk : List Int, es = mk.map .int ∧ ∀ m ∈ mk, 0 ≤ m ∧ m ≤ 100 := by
      clear o l4
      induction es with
      | nil => exact ⟨[], rfl, by simp⟩
      | cons x es ih =>
        obtain ⟨z, rfl, b⟩ := al x List.mem_cons_self
        obtain ⟨mk, rfl, mb⟩ := ih fun y hy => al y (List.mem_cons_of_mem _ hy)
        exact ⟨z :: mk, rfl, fun m hm => (List.mem_cons.mp hm).elim (fun q => by subst q; exact b) (mb m)⟩
    exact k _ v H' ⟨⟨pz, mk⟩, ⟨b1, b2, by simpa using l4, mb⟩, rfl⟩ a o
end
end Sc

/-! k69, 7: drawn fields and formulas. -/
namespace Sc
open PySem L2 Fw
open PyProof.Rows (envOfC)
theorem str_bid : (PyData.str "bid").canLay0 = true := by decide +kernel
theorem shp_bid (b : Bid) : Shp 2 b.d := shp_tuple (n := 1) fun d hd => by
  simp only [List.mem_cons, List.not_mem_nil, or_false] at hd
  rcases hd with rfl | rfl | rfl
  · exact (shp_str str_bid).mono (by decide)
  · exact (shp_int _).mono (by decide)
  · exact shp_tuple (n := 0) fun d hd => by
      obtain ⟨n, _, rfl⟩ := List.mem_map.mp hd
      exact shp_int n
theorem nol_ints (ns : List Int) : noLists (ns.map .int) = true := noLists_of fun d hd => by
  obtain ⟨n, _, rfl⟩ := List.mem_map.mp hd
  rfl
theorem nol_bid (b : Bid) : noList b.d = true := by
  unfold Bid.d
  simp only [noList, noLists, nol_ints, Bool.and_self]
theorem nol_tm (t : Tm) : noList t.d = true := by
  cases t <;> simp only [Tm.d, noList, noLists, Bool.and_self]
section
variable {P : Program} {w : World} {K : PySem.W.Frag} {mg : Str → Option Value} {base : Heap}
/-! ### _law_field -/
def Pfl (ds : List PyData) : Prop := ∃ m : Int, 0 ≤ m ∧ m ≤ 130 ∧ ds = [.int m]
def Gfl (ds : List PyData) (d : PyData) : Prop := ∃ (m : Int) (fl : List Bid), ds = [.int m] ∧ FieldOk fl ∧ fl.length = m.toNat ∧ d = .list (fl.map Bid.d)
theorem ok_law_field (T : Txt K mg) : FnOk P w K mg base CX0 6 T.a_law_field T.d_law_field ["draw", "many"] (spN K Pfl Gfl) := by
  refine drawOk T.F_law_field sc_law_field (by rintro _ ⟨m, _, _, rfl⟩; rfl) fun cdv A outer s H E hr => ⟨_, (pss_cons (ksl 2 sc_law_field.nd (pe_lst pa_nil))
      (pss_cons (ps_for PassesOwn.never rfl (krg1 T.n_range (kpa (kvl 1) pa_nil)) (kgl 3 sc_law_field.nd) (pss_one (kexpr (show PE _ _ (tBM K "list" _ _ _) from kmeth PySem.F.plainAttrs_list PySem.F.slot_list_append PySem.F.type_list_append mt_append (kvl 2) (kpa (pe_ifExp (PW.pt (pw_and (pt_cmpR (r := rNeD K) (op_neD hr.units) (kvl 2) (pe_lst pa_nil) (nomark _)) (pw_and1 (pt_cmpR op_eq (kcall (ok_law_take T) (hr.mono (by decide)) T.g__law_take T.k__law_take T.b__law_take (kpa (kvl 0) (kpa pe_int pa_nil))) pe_int (nomark _))))) (kcall (ok_law_pick T) (hr.mono (by decide)) T.g__law_pick T.k__law_pick T.b__law_pick (kpa (kvl 0) (kpa (kvl 2) pa_nil))) (kcall (ok_law_bid T) (hr.mono (by decide)) T.g__law_bid T.k__law_bid T.b__law_bid (kpa (kvl 0) pa_nil))) pa_nil)))))
      (pss_one (ps_ret (kvl 2))))), ?_⟩
  rintro _ ⟨m, m0, m1, rfl⟩ A ms σ H Q h k
  have h : At K (DW K A) ms ⟨H, H⟩ [.raw (.ref A.d), .dat (.int m), .emp, .emp] σ H := h
  refine q_own' h (ef_lst ed_nil (by decide)) fun l ds σ1 H1 e1 h1 o1 lm lb => ?_
  subst e1
  dsimp only [List.set] at h1
  refine q_forE (α := List Bid) (R := fun i p => [.raw (.ref A.d), .dat (.int m), .raw (.ref l), .emp]) (S := fun i p => [.raw (.ref A.d), .dat (.int m), .raw (.ref l), .dat (.int (i : Nat))])
    (X := fun i p H' => p.length = i ∧ (∀ b ∈ p, b.Ok) ∧ Own K (DW K A) (l :: ms) ⟨H, H⟩ l (p.map Bid.d) H') [] h1 (src_range (n := m) (ed_cons (evd_var rfl) ed_nil) (by omega) (by omega)) (Le.refl _) (fun H3 h3 x3 => ⟨rfl, by simp, o1.go h1.sub x3⟩)
    (fun i p d hd => ⟨[3], ?_⟩) (fun Hb i p d σ3 H3 hd h3 x3 => ?_) (fun p σ3 H3 h3 x3 => ?_) (fun i p H H' s _ x => ⟨x.1, x.2.1, x.2.2.same s⟩)
  · obtain ⟨e, _⟩ := rangeD_get (n := m) hd
    rw [e]
    exact tg_name
  · obtain ⟨_, il⟩ := rangeD_get (n := m) hd
    obtain ⟨pl, pb, po⟩ := x3
    refine s_appL (Ψ := fun d => ∃ b : Bid, b.Ok ∧ d = b.d) h3 (po.re Hb) lm rfl (by rw [List.length_map]; omega) ?_ fun d H4 q h4 o4 => ?_
    · have sh : Shp 3 (.list (p.map Bid.d)) := shp_list fun d hd => by
        obtain ⟨b, _, rfl⟩ := List.mem_map.mp hd
        exact shp_bid b
      have ne : (!PyData.eqv (.list (p.map Bid.d)) (.list [])) = true → p ≠ [] := fun e z => by
        subst z
        simp [PyData.eqv, PyData.eqvAll] at e
      refine En.isd (P := fun d => ∃ b : Bid, b.Ok ∧ d = b.d) (en_if (ent_and (Ψ1 := fun b => b = true → p ≠ []) (ent_of (et_test (ev_neD (evd_var rfl) (ev_lst ed_nil (by decide)) (sh.shaped (by decide)) ((shp_list (n := 0) (by simp)).shaped (by decide)))) ne)
        fun _ => en_eqI (en_take rfl ev_int (by decide) ((Nb.of (n := 3) (by decide) (by decide)).mono (by decide))) ev_int) (fun ψ => ?_) (fun _ => ?_)) fun d ⟨b, ob, e⟩ => ⟨by rw [e]; exact nol_bid b, b, ob, e⟩
      · have np : p ≠ [] := by
          rcases ψ with ⟨q, _⟩ | ⟨_, q⟩
          · exact q rfl
          · cases q
        exact (en_pick (Ψ := fun xs => xs = p.map Bid.d) rfl (isd_evd (d := .list (p.map Bid.d)) (P := fun d => ∃ xs, d = .list xs ∧ xs = p.map Bid.d) (evd_var rfl) ⟨_, rfl, rfl⟩) fun xs q => by subst q; exact ⟨fun z => np (List.map_eq_nil_iff.mp z), by rw [List.length_map]; omega⟩).isd fun d ⟨xs, q, mm⟩ => by
          subst q
          obtain ⟨b, hb, rfl⟩ := List.mem_map.mp mm
          exact ⟨b, pb b hb, rfl⟩
      · exact (en_callN rfl end_nil fun _ e => e).isd fun d ⟨_, _, q⟩ => q
    · obtain ⟨b, ob, rfl⟩ := q
      refine ⟨p ++ [b], h4.le (.same (.same (.same (.emp .nil)))), by rw [List.length_append, pl]; rfl, fun c hc => ?_, ?_⟩
      · rcases List.mem_append.mp hc with q | q
        · exact pb c q
        · rw [List.mem_singleton.mp q]; exact ob
      · rw [List.map_append]
        exact o4.un
  · obtain ⟨pl, pb, po⟩ := x3
    have h4 := h3.lend po lm lb (i := 2) rfl
    have el : p.length = m.toNat := by rw [pl]; exact rangeD_len m
    exact s_fin h4 (evd_var rfl) fun v H' a o => k _ v H' ⟨m, p, rfl, ⟨by omega, pb⟩, el, rfl⟩ a o
/-! ### _law_formula -/
def WdOk (x : Str) : Prop := x = "mark" ∨ ∃ r : Rel, x = r.s
def KindOk (d : PyData) : Prop := ∃ ws : List Str, d = .list (ws.map .str) ∧ ws ≠ [] ∧ ws.length ≤ 4 ∧ ∀ x ∈ ws, WdOk x
def kindsD : List PyData := [.list [.str "mark", .str "low", .str "range", .str "mean"], .list [.str "mark", .str "low", .str "range"], .list [.str "mark", .str "range"], .list [.str "mark", .str "low"], .list [.str "mark"], .list [.str "low", .str "range", .str "mean"]]
theorem wd_mark : WdOk "mark" := .inl rfl
theorem wd_low : WdOk "low" := .inr ⟨.low, rfl⟩
theorem wd_range : WdOk "range" := .inr ⟨.range, rfl⟩
theorem wd_mean : WdOk "mean" := .inr ⟨.mean, rfl⟩
theorem kinds_ok : ∀ d ∈ kindsD, KindOk d := fun d hd => by
  simp only [kindsD, List.mem_cons, List.not_mem_nil, or_false] at hd
  rcases hd with rfl | rfl | rfl | rfl | rfl | rfl
  · exact ⟨["mark", "low", "range", "mean"], rfl, by simp, by decide, by simp [wd_mark, wd_low, wd_range, wd_mean]⟩
  · exact ⟨["mark", "low", "range"], rfl, by simp, by decide, by simp [wd_mark, wd_low, wd_range, wd_mean]⟩
  · exact ⟨["mark", "range"], rfl, by simp, by decide, by simp [wd_mark, wd_low, wd_range, wd_mean]⟩
  · exact ⟨["mark", "low"], rfl, by simp, by decide, by simp [wd_mark, wd_low, wd_range, wd_mean]⟩
  · exact ⟨["mark"], rfl, by simp, by decide, by simp [wd_mark, wd_low, wd_range, wd_mean]⟩
  · exact ⟨["low", "range", "mean"], rfl, by simp, by decide, by simp [wd_mark, wd_low, wd_range, wd_mean]⟩
theorem q_forN {W : Wd} {ms : List Addr} {B : Bs} {H : Hp} {ρ : List Sl} {σ : L2.St} {wi : TI} {g : TG} {D : Ends} {ts tz : TS} {α : Type} {Ψ : List PyData → Prop} {R S : Nat → α → List Sl} {X : Nat → α → Hp → Prop} (p0 : α) (h : At K W ms B ρ σ H) (sr : SrcN K W wi ρ Ψ) (l0 : Le (R 0 p0) ρ) (x0 : ∀ H1, At K W ms B ρ σ H1 → XW W.ws H H1 → X 0 p0 H1)
    (tg : ∀ ds, Ψ ds → ∀ i p d, ds[i]? = some d → ∃ js, Tg K W g js d (R i p) (S i p))
    (hs : ∀ ds, Ψ ds → ∀ Hb i p d σ' H', ds[i]? = some d → At K W ms ⟨B.h0, Hb⟩ (S i p) σ' H' → X i p H' → ts { D with nx := fun σ H => ∃ p', At K W ms ⟨B.h0, Hb⟩ (R (i + 1) p') σ H ∧ X (i + 1) p' H, ct := fun σ H => ∃ p', At K W ms ⟨B.h0, Hb⟩ (R (i + 1) p') σ H ∧ X (i + 1) p' H, bk := tz D } σ' H')
    (hd : ∀ ds, Ψ ds → ∀ p σ' H', At K W ms B (R ds.length p) σ' H' → X ds.length p H' → tz D σ' H') (xs : ∀ i p H H', Same H H' → Live ms H → X i p H → X i p H') : tSeq (tFor wi g ts) tz D σ H :=
  s_forN (D := { D with nx := tz D }) p0 h sr l0 x0 tg hs hd xs
theorem q_parX {W : Wd} {ms : List Addr} {B : Bs} {H : Hp} {ρ : List Sl} {σ : L2.St} {D : Ends} {tz : TS} {j k : Nat} {ta tb : TE} {Φ1 Φ2 : Sl → Prop} (h : At K W ms B ρ σ H) (e1 : En K W ta ρ Φ1) (e2 : En K W tb ρ Φ2) (kk : ∀ s1 s2 σ' H', Φ1 s1 → Φ2 s2 → At K W ms B ((ρ.set j s1).set k s2) σ' H' → XW W.ws H H' → tz D σ' H') : tSeq (tPar j k (tCons ta (tCons tb tNil))) tz D σ H :=
  e1 ms B σ H h _ fun s1 v1 H1 φ1 h1 x1 o1 => e2 ms B σ H1 h1 _ fun s2 v2 H2 φ2 h2 x2 o2 => ⟨v1, v2, rfl, kk s1 s2 _ H2 φ1 φ2 ((h2.set (o1.mono (x2.cut h2.sub)) j).set o2 k) (x1.trans x2)⟩
theorem ok_law_formula (T : Txt K mg) : FnOk P w K mg base CX0 4 T.a_law_formula T.d_law_formula ["draw"] (spN K Pm fun _ d => ∃ f : List Tm, FormOk f ∧ d = formD f) := by
  refine drawOk T.F_law_formula sc_law_formula (by rintro _ rfl; rfl) fun cdv A outer s H E hr => ⟨_, (pss_cons (ksl 1 sc_law_formula.nd (kcall (ok_law_pick T) (hr.mono (by decide)) T.g__law_pick T.k__law_pick T.b__law_pick (kpa (kvl 0) (kpa (pe_lst (kpa (pe_lst (kpa pe_str (kpa pe_str (kpa pe_str (kpa pe_str pa_nil))))) (kpa (pe_lst (kpa pe_str (kpa pe_str (kpa pe_str pa_nil)))) (kpa (pe_lst (kpa pe_str (kpa pe_str pa_nil))) (kpa (pe_lst (kpa pe_str (kpa pe_str pa_nil))) (kpa (pe_lst (kpa pe_str pa_nil)) (kpa (pe_lst (kpa pe_str (kpa pe_str (kpa pe_str pa_nil)))) pa_nil))))))) pa_nil))))
      (pss_cons (kpar (i := 2) (j := 3) (by rfl) sc_law_formula.nd (by decide) (kpa (kcall (ok_law_pick T) (hr.mono (by decide)) T.g__law_pick T.k__law_pick T.b__law_pick (kpa (kvl 0) (kpa (pe_lst (kpa pe_int (kpa pe_int (kpa pe_int pa_nil)))) pa_nil))) (kpa (pe_lst pa_nil) pa_nil)))
      (pss_cons (ps_for PassesOwn.never rfl (krg1 T.n_range (kpa (kcall (ok_law_take T) (hr.mono (by decide)) T.g__law_take T.k__law_take T.b__law_take (kpa (kvl 0) (kpa pe_int pa_nil))) pa_nil)) (kgl 4 sc_law_formula.nd) (pss_cons (kpar (i := 5) (j := 6) (by rfl) sc_law_formula.nd (by decide) (kpa (kcall (ok_law_pick T) (hr.mono (by decide)) T.g__law_pick T.k__law_pick T.b__law_pick (kpa (kvl 0) (kpa (kvl 1) pa_nil))) (kpa (pe_op op_add pe_int (kcall (ok_law_take T) (hr.mono (by decide)) T.g__law_take T.k__law_take T.b__law_take (kpa (kvl 0) (kpa (kvl 2) pa_nil)))) pa_nil)))
      (pss_one (kexpr (show PE _ _ (tBM K "list" _ _ _) from kmeth PySem.F.plainAttrs_list PySem.F.slot_list_append PySem.F.type_list_append mt_append (kvl 3) (kpa (pe_ifExp (pt_cmpR op_eq (kvl 5) pe_str (nomark _)) (pe_tup (kpa (kvl 5) (kpa (kcall (ok_law_take T) (hr.mono (by decide)) T.g__law_take T.k__law_take T.b__law_take (kpa (kvl 0) (kpa pe_int pa_nil))) (kpa (kvl 6) pa_nil)))) (pe_tup (kpa (kvl 5) (kpa (kvl 6) pa_nil)))) pa_nil))))))
      (pss_one (ps_ret (kTy (r := rTupOf K) call_tuple_of T.n_tuple (kpa (kvl 3) pa_nil))))))), ?_⟩
  rintro _ rfl A ms σ H Q h k
  have h : At K (DW K A) ms ⟨H, H⟩ [.raw (.ref A.d), .emp, .emp, .emp, .emp, .emp, .emp] σ H := h
  refine q_asgN h (en_pick (Ψ := (· = kindsD)) rfl (isd_evd (d := .list kindsD) (P := fun d => ∃ xs, d = .list xs ∧ xs = kindsD) (ev_lst (ed_cons (ev_lst (ed_cons ev_str (ed_cons ev_str (ed_cons ev_str (ed_cons ev_str ed_nil)))) (by show 4 ≤ 100000; decide)) (ed_cons (ev_lst (ed_cons ev_str (ed_cons ev_str (ed_cons ev_str ed_nil))) (by show 3 ≤ 100000; decide)) (ed_cons (ev_lst (ed_cons ev_str (ed_cons ev_str ed_nil)) (by show 2 ≤ 100000; decide)) (ed_cons (ev_lst (ed_cons ev_str (ed_cons ev_str ed_nil)) (by show 2 ≤ 100000; decide)) (ed_cons (ev_lst (ed_cons ev_str ed_nil) (by show 1 ≤ 100000; decide)) (ed_cons (ev_lst (ed_cons ev_str (ed_cons ev_str (ed_cons ev_str ed_nil))) (by show 3 ≤ 100000; decide)) ed_nil)))))) (by show 6 ≤ 100000; decide)) ⟨_, rfl, rfl⟩)
    fun xs q => by rw [q]; exact ⟨by simp [kindsD], by show 6 ≤ 100000; decide⟩) fun s σ1 H1 p1 h1 => ?_
  obtain ⟨d, rfl, xs, q, m⟩ := p1
  obtain ⟨ws, rfl, wn, wl, wo⟩ := kinds_ok d (by rw [← show xs = kindsD from q]; exact m)
  clear q m xs
  dsimp only [List.set] at h1
  refine q_parNF (Φ1 := fun s => ∃ n : Int, s = .dat (.int n) ∧ 0 < n ∧ n ≤ 1000) h1 ((en_pick (Ψ := (· = [.int 3, .int 12, .int 1000])) rfl (isd_evd (d := .list [.int 3, .int 12, .int 1000]) (P := fun d => ∃ xs, d = .list xs ∧ xs = [.int 3, .int 12, .int 1000]) (ev_lst (ed_cons ev_int (ed_cons ev_int (ed_cons ev_int ed_nil))) (by show 3 ≤ 100000; decide)) ⟨_, rfl, rfl⟩)
    fun xs q => by rw [q]; exact ⟨by simp, by show 3 ≤ 100000; decide⟩).imp fun s ⟨d, e, xs, q, m⟩ => ?_) (ef_lst ed_nil (by decide)) fun s1 l ds σ2 H2 p2 e2 h2 o2 lm lb => ?_
  · rw [show xs = _ from q] at m
    simp only [List.mem_cons, List.not_mem_nil, or_false] at m
    rcases m with rfl | rfl | rfl
    · exact ⟨⟨_, e, by decide, by decide⟩, _, e⟩
    · exact ⟨⟨_, e, by decide, by decide⟩, _, e⟩
    · exact ⟨⟨_, e, by decide, by decide⟩, _, e⟩
  obtain ⟨mo, rfl, mo0, mo1⟩ := p2
  subst e2
  dsimp only [List.set] at h2
  have tk : ∀ n : Int, 0 ≤ n → n ≤ 1000 → Nb 1000 n := fun n a b => (Nb.of (n := 10) a (Int.lt_of_le_of_lt b (by decide))).mono (by decide)
  refine q_forN (α := List Tm) (R := fun i p => [.raw (.ref A.d), .dat (.list (ws.map .str)), .dat (.int mo), .raw (.ref l), .emp, .emp, .emp]) (S := fun i p => [.raw (.ref A.d), .dat (.list (ws.map .str)), .dat (.int mo), .raw (.ref l), .dat (.int (i : Nat)), .emp, .emp])
    (X := fun i p H' => p.length = i ∧ (∀ t ∈ p, t.Ok) ∧ Own K (DW K A) (l :: ms) ⟨H, H⟩ l (p.map Tm.d) H') [] h2 (srcN_range (Ψ := fun n => 0 ≤ n ∧ n < 7) (en_take rfl ev_int (by decide) (tk _ (by decide) (by decide))) fun n q => by omega) (Le.refl _) (fun H3 h3 x3 => ⟨rfl, by simp, o2.go h2.sub x3⟩)
    (fun ds ψ i p d hd => ⟨[4], ?_⟩) (fun ds ψ Hb i p d σ3 H3 hd h3 x3 => ?_) (fun ds ψ p σ3 H3 h3 x3 => ?_) (fun i p H H' s _ x => ⟨x.1, x.2.1, x.2.2.same s⟩)
  · obtain ⟨n, nb, rfl⟩ := ψ
    obtain ⟨e, _⟩ := rangeD_get hd
    rw [e]
    exact tg_name
  · obtain ⟨n, nb, rfl⟩ := ψ
    obtain ⟨_, il⟩ := rangeD_get hd
    obtain ⟨pl, pb, po⟩ := x3
    refine q_parX h3 (en_pick (Ψ := fun xs => xs = ws.map .str) rfl (isd_evd (d := .list (ws.map .str)) (P := fun d => ∃ xs, d = .list xs ∧ xs = ws.map .str) (evd_var rfl) ⟨_, rfl, rfl⟩) fun xs q => by subst q; exact ⟨fun z => wn (List.map_eq_nil_iff.mp z), by rw [List.length_map]; omega⟩)
      (en_I0 (Ψ := fun n => 1 ≤ n ∧ n ≤ 1000) (en_int (Ψ := (· = 1)) rfl) (en_take rfl (evd_var rfl) mo0 (tk _ (by omega) mo1)) (fun i j a b => by subst a; omega)) fun s1 s2 σ4 H4 p1 p2 h4 x4 => ?_
    obtain ⟨d1, rfl, xs, q, mm⟩ := p1
    obtain ⟨z, rfl, zb⟩ := p2
    rw [show xs = _ from q] at mm
    obtain ⟨x, hx, rfl⟩ := List.mem_map.mp mm
    have ox := wo x hx
    clear mm hx q xs
    dsimp only [List.set] at h4
    refine s_appL (Ψ := fun d => ∃ t : Tm, t.Ok ∧ d = t.d) h4 ((po.re Hb).go h3.sub x4) lm rfl (by rw [List.length_map]; omega) ?_ fun d H5 q h5 o5 => ?_
    · refine En.isd (P := fun d => ∃ t : Tm, t.Ok ∧ d = t.d) (en_if (ent_of (Ψ := (· = decide (x = "mark"))) (et_test (ev_eqS (evd_var rfl) ev_str)) rfl) (fun c => ?_) (fun c => ?_)) fun d ⟨t, ot, e⟩ => ⟨by rw [e]; exact nol_tm t, t, ot, e⟩
      · have hx : x = "mark" := of_decide_eq_true c.symm
        subst hx
        refine (en_tup (end_cons (Ψ1 := (· = .str "mark")) (isd_evd (evd_var rfl) rfl) (end_cons (Ψ1 := fun d => ∃ n : Int, d = .int n ∧ 0 ≤ n ∧ n < 4) (isd_of (en_take rfl ev_int (by decide) (tk _ (by decide) (by decide))) fun n b => ⟨n, rfl, b⟩) (end_one (P := (· = .int z)) (isd_evd (evd_var rfl) rfl)))) fun ds ⟨_, _, e1, _, _, _, e2, _, _, e3, _⟩ => by rw [e1, e2, e3]; show 3 ≤ 100000; decide).isd fun d e => ?_
        obtain ⟨ds, rfl, d1, es, rfl, rfl, d2, es2, rfl, ⟨n, rfl, n0, n1⟩, d3, rfl, rfl⟩ := e
        refine ⟨.mark n.toNat z, ⟨by omega, zb⟩, ?_⟩
        show PyData.tuple _ = PyData.tuple [.str "mark", .int ((n.toNat : Nat) : Int), .int z]
        rw [Int.toNat_of_nonneg n0]
      · have hx : x ≠ "mark" := of_decide_eq_false c.symm
        rcases ox with q | ⟨r, rfl⟩
        · exact absurd q hx
        · exact isd_evd (ev_tup (ed_cons (evd_var rfl) (ed_cons (evd_var rfl) ed_nil)) (by show 2 ≤ 100000; decide)) ⟨.rel r z, zb, rfl⟩
    · obtain ⟨t, ot, rfl⟩ := q
      refine ⟨p ++ [t], h5.le (.same (.same (.same (.same (.emp (.emp (.emp .nil))))))), by rw [List.length_append, pl]; rfl, fun c hc => ?_, ?_⟩
      · rcases List.mem_append.mp hc with q | q
        · exact pb c q
        · rw [List.mem_singleton.mp q]; exact ot
      · rw [List.map_append]
        exact o5.un
  · obtain ⟨n, nb, rfl⟩ := ψ
    obtain ⟨pl, pb, po⟩ := x3
    rw [rangeD_len] at pl
    exact s_fin (h3.lend po lm lb (i := 3) rfl) (ev_tupL (evd_var rfl)) fun v H' a o => k _ v H' ⟨p, ⟨by omega, pb⟩, rfl⟩ a o
end
end Sc

/-! k69, 8: the source of draws is made. -/
namespace Sc
open PySem L2 Fw
open PyProof.Rows (envOfC)
section
variable {P : Program} {w : World} {K : PySem.W.Frag} {mg : Str → Option Value} {base : Heap}
theorem ints_paired {α : Type} : ∀ {xs : List α} {es : List PyData}, Paired (fun _ d => ∃ z : Int, d = .int z) xs es → ∃ ns : List Int, es = ns.map .int
  | _, _, .nil => ⟨[], rfl⟩
  | _, _, .cons h t => by
    obtain ⟨z, rfl⟩ := h
    obtain ⟨ns, rfl⟩ := ints_paired t
    exact ⟨z :: ns, rfl⟩
def spBg (K : PySem.W.Frag) : Sp := fun vs H Q _ => ∃ (ms : List Addr) (ns : List Int), Live ms H ∧ DpAll K (cut ms H) vs [.list (ns.map .int)] ∧ ns.length ≤ 63 ∧
  ∀ (A : DrawA) (H' : Hp), At K W0 (A.d :: A.l :: ms) ⟨H, H⟩ [] [] H' → H A.d = none → H A.l = none → (DW K A).P H' → (DW K A).C (cut (A.d :: A.l :: ms) H') → Q (.ref A.d) H'
theorem merge_draw (A : DrawA) : mergeK [] [(.inr "large", .ref A.l), (.inr "rest", .int 0), (.inr "cells", .ref A.c), (.inr "turn", .int 0)] = drawKv A 0 0 := by
  simp [mergeK, putK, drawKv, str_lr, str_lc, str_lt, str_rc, str_rt, str_ct]
theorem ok_law_begun (T : Txt K mg) : FnOk P w K mg base CX0 1 T.a_law_begun T.d_law_begun ["script"] (spBg K) := by
  refine T.F_law_begun.ok sc_law_begun (fun vs H Q E h => ?_) fun cdv A outer s H vs Q E hr h => ?_
  · obtain ⟨ms, ns, _, o, _⟩ := h
    rw [dpa_len o]; rfl
  obtain ⟨ms, ns, lv, o, nl, k⟩ := h
  refine ⟨_, (pss_cons (ps_setLc (i := 1) (own := [("cell", 2)]) (g := (gName 2)) (by rfl) sc_law_begun.nd (by kernel_rfl) (by kernel_rfl) kswap (show PI _ _ _ (iList K _) from pi_list (kvl 0)) (blkOk_by (by kernel_rfl)) (fun _ _ _ _ _ => (kgl 2 sc_law_begun.nd)) (fun _ _ _ _ _ => (pts_one (pt_cmpR op_ge (kB call_abs T.n_abs (kpa (kvl 2) pa_nil)) (pe_op op_pow pe_int pe_int) (nomark _)))) (fun _ _ _ _ _ => (pe_op op_sub (kB call_abs T.n_abs (kpa (kvl 2) pa_nil)) (pe_op op_pow pe_int pe_int))))
      (pss_one (ps_ret (pe_disp (pps_cons pe_str (kvl 1) (pps_cons pe_str pe_int (pps_cons pe_str (pe_lc (own := [("cell", 2)]) (g := (gName 2)) (tt := tYes) (by rfl) sc_law_begun.nd (show PI _ _ _ (iList K _) from pi_list (kvl 0)) (blkOk_by (by kernel_rfl)) (fun _ _ _ _ _ => (kgl 2 sc_law_begun.nd)) (fun _ _ _ _ _ => pts_nil) (fun _ _ _ _ _ => (kB call_abs T.n_abs (kpa (kvl 2) pa_nil)))) (pps_cons pe_str pe_int pps_nil)))) (by rfl) (by rfl) (fun z => by cases z) (by decide))))), ?_⟩
  have h : At K W0 ms ⟨H, H⟩ [.dat (.list (ns.map .int)), .emp, .emp] (L2.start n_law_begun vs) H := at_start (N := n_law_begun) lv o
  have big : ∀ {ρ : List Sl}, Evd K W0 (tOp (rI CPow fun i j => .int (i ^ j.toNat)) (tC (.int 10)) (tC (.int 18))) ρ (.int (10 ^ 18)) := fun {ρ} => ev_pow ev_int ev_int ⟨by decide, by decide, by decide⟩
  refine q_own' h (ef_lc (xs := ns) (enc := PyData.int) (p := fun c => decide ((10 : Int) ^ 18 ≤ (if c < 0 then -c else c))) (Φ := fun _ d => ∃ z : Int, d = .int z) (S := fun c => [.dat (.list (ns.map .int)), .emp, .dat (.int c)]) (src_list (evd_var rfl)) (by omega)
    (fun x _ => ⟨[2], tg_name, by decide⟩) (fun x _ => et_test (ev_ge (ev_abs (evd_var rfl)) big)) fun x _ _ => en_of_ev (ev_sub (ev_abs (evd_var rfl)) big) ⟨_, rfl, _, rfl⟩) fun l ds σ1 H1 pr h1 o1 lm lb => ?_
  obtain ⟨lg, rfl⟩ := ints_paired pr
  dsimp only [List.set] at h1
  refine fun p hp => ?_
  have h2 := h1.own (o := .dK []) hp
  obtain ⟨p0, pm, _⟩ := h1.fresh hp
  have ec : Evd K W0 (tLc (iList K (tVar 0)) (gName 2) tYes (tCB rAbs1 (tCons (tVar 2) tNil)) [2]) [.dat (.list (ns.map .int)), .raw (.ref l), .emp] (.list (ns.map fun c => .int (if c < 0 then -c else c))) :=
    ev_lc0 (enc := PyData.int) (src_list (evd_var rfl)) (by omega) fun x _ => ev_abs (evd_var rfl)
  obtain ⟨wv, ew, ow⟩ := h2.env.get (i := 1) rfl (by intro q; cases q)
  obtain rfl : wv = .ref l := ow
  obtain ⟨vs1, el, dl⟩ := o1.val
  obtain rfl := dpa_ints dl
  have pl : p ≠ l := fun q => pm (by rw [q]; exact List.mem_cons_self)
  refine ⟨_, ew, ?_⟩
  dsimp only [tPairs, tC]
  refine ec (p :: l :: ms) ⟨H, H⟩ σ1 _ h2 _ fun v H3 h3 x3 o3 => ?_
  obtain ⟨c, rfl⟩ : ∃ c, v = .ref c := by cases o3 with | lst _ _ => exact ⟨_, rfl⟩
  let A2 : DrawA := ⟨p, l, c, ns.map fun c => if c < 0 then -c else c, pl⟩
  have ep : H3 p = some (.dK []) := x3 p _ (by intro z; cases z) upd_same
  have e3 : H3 l = some (.lst (lg.map .int)) := x3 l _ (by intro z; cases z) (by rw [upd_ne (Ne.symm pl)]; exact el)
  refine ⟨ep, [(.inr "large", .ref l), (.inr "rest", .int 0), (.inr "cells", .ref c), (.inr "turn", .int 0)], rfl, by show 4 ≤ 15; decide, ?_⟩
  rw [show mergeK [] _ = drawKv A2 0 0 from merge_draw A2]
  refine k A2 _ (h3.write List.mem_cons_self (by intro z; cases z) p0).nil p0 lb ⟨⟨lg, 0, 0⟩, upd_same, ?_⟩ ?_
  · rw [upd_ne (show A2.l ≠ p from Ne.symm pl)]
    exact e3
  · refine dp_mono (cut_put (.inl List.mem_cons_self)) _ _ ?_
    show Dp K _ _ (.list ((ns.map fun c => if c < 0 then -c else c).map .int))
    rw [List.map_map]
    exact o3
end
end Sc

/-! Orders of bids: who leads, lists put in order one by one, and by numbers of leaders. No program in sight. -/
namespace Sc
/-! ### fractions -/
theorem fle_trans {a b c d e f : Int} (hb : 0 < b) (hd : 0 < d) (hf : 0 < f) (h1 : a * d ≤ c * b) (h2 : c * f ≤ e * d) : a * f ≤ e * b := by
  refine Int.le_of_mul_le_mul_right (a := d) ?_ hd
  have a1 := Int.mul_le_mul_of_nonneg_right h1 (Int.le_of_lt hf)
  have a2 := Int.mul_le_mul_of_nonneg_right h2 (Int.le_of_lt hb)
  have e1 : a * f * d = a * d * f := by grind
  have e2 : c * b * f = c * f * b := by grind
  have e3 : e * d * b = e * b * d := by grind
  omega
theorem flt_trans {a b c d e f : Int} (hb : 0 < b) (hd : 0 < d) (hf : 0 < f) (h1 : a * d < c * b) (h2 : c * f ≤ e * d) : a * f < e * b := by
  refine Int.lt_of_mul_lt_mul_right (a := d) ?_ (Int.le_of_lt hd)
  have a1 := Int.mul_lt_mul_of_pos_right h1 hf
  have a2 := Int.mul_le_mul_of_nonneg_right h2 (Int.le_of_lt hb)
  have e1 : a * f * d = a * d * f := by grind
  have e2 : c * b * f = c * f * b := by grind
  have e3 : e * d * b = e * b * d := by grind
  omega
theorem flt_trans' {a b c d e f : Int} (hb : 0 < b) (hd : 0 < d) (hf : 0 < f) (h1 : a * d ≤ c * b) (h2 : c * f < e * d) : a * f < e * b := by
  refine Int.lt_of_mul_lt_mul_right (a := d) ?_ (Int.le_of_lt hd)
  have a1 := Int.mul_le_mul_of_nonneg_right h1 (Int.le_of_lt hf)
  have a2 := Int.mul_lt_mul_of_pos_right h2 hb
  have e1 : a * f * d = a * d * f := by grind
  have e2 : c * b * f = c * f * b := by grind
  have e3 : e * d * b = e * b * d := by grind
  omega
/-! ### who leads -/
def lead (F : Nat → Int × Int) (P : Nat → Int) (i j : Nat) : Bool :=
  if (F i).1 * (F j).2 = (F j).1 * (F i).2 then (if P i = P j then decide (i < j) else decide (P i < P j)) else decide ((F j).1 * (F i).2 < (F i).1 * (F j).2)
theorem lead_iff {F : Nat → Int × Int} {P : Nat → Int} {i j : Nat} : lead F P i j = true ↔ (F j).1 * (F i).2 < (F i).1 * (F j).2 ∨ ((F i).1 * (F j).2 = (F j).1 * (F i).2 ∧ (P i < P j ∨ (P i = P j ∧ i < j))) := by
  unfold lead
  split
  · split
    · simp only [decide_eq_true_eq]; omega
    · simp only [decide_eq_true_eq]; omega
  · simp only [decide_eq_true_eq]; omega
structure Ord (L : Nat → Nat → Bool) : Prop where
  irr : ∀ i, L i i = false
  tr : ∀ {i j k}, L i j = true → L j k = true → L i k = true
  tot : ∀ {i j}, i ≠ j → L i j = true ∨ L j i = true
theorem lead_ord {F : Nat → Int × Int} {P : Nat → Int} (h : ∀ i, 0 < (F i).2) : Ord (lead F P) := by
  refine ⟨fun i => ?_, fun {i j k} a b => ?_, fun {i j} n => ?_⟩
  · cases e : lead F P i i with
    | false => rfl
    | true =>
      have := lead_iff.mp e
      omega
  · refine lead_iff.mpr ?_
    rcases lead_iff.mp a with a | ⟨a, a'⟩
    · rcases lead_iff.mp b with b | ⟨b, _⟩
      · exact .inl (flt_trans (h k) (h j) (h i) b (Int.le_of_lt a))
      · exact .inl (flt_trans' (h k) (h j) (h i) (Int.le_of_eq b.symm) a)
    · rcases lead_iff.mp b with b | ⟨b, b'⟩
      · exact .inl (flt_trans (h k) (h j) (h i) b (Int.le_of_eq a.symm))
      · refine .inr ⟨Int.le_antisymm (fle_trans (h i) (h j) (h k) (Int.le_of_eq a) (Int.le_of_eq b)) (fle_trans (h k) (h j) (h i) (Int.le_of_eq b.symm) (Int.le_of_eq a.symm)), ?_⟩
        omega
  · rw [lead_iff, lead_iff]
    omega
theorem Ord.asy {L : Nat → Nat → Bool} (O : Ord L) {i j : Nat} (a : L i j = true) : L j i = false := by
  cases e : L j i with
  | false => rfl
  | true =>
    have := O.tr a e
    rw [O.irr] at this
    cases this
/-- scaled fractions lead alike -/
theorem lead_scale {F G : Nat → Int × Int} {P : Nat → Int} {g : Nat → Int} (hg : ∀ i, 0 < g i) (h1 : ∀ i, (F i).1 = (G i).1 * g i) (h2 : ∀ i, (F i).2 = (G i).2 * g i) (i j : Nat) : lead F P i j = lead G P i j := by
  have k : 0 < g i * g j := Int.mul_pos (hg i) (hg j)
  have e1 : (F i).1 * (F j).2 = (G i).1 * (G j).2 * (g i * g j) := by rw [h1, h2]; grind
  have e2 : (F j).1 * (F i).2 = (G j).1 * (G i).2 * (g i * g j) := by rw [h1, h2]; grind
  rw [Bool.eq_iff_iff, lead_iff, lead_iff, e1, e2]
  have l : ∀ x y : Int, x * (g i * g j) < y * (g i * g j) ↔ x < y := fun x y => ⟨fun z => Int.lt_of_mul_lt_mul_right z (Int.le_of_lt k), fun z => Int.mul_lt_mul_of_pos_right z k⟩
  have m : ∀ x y : Int, x * (g i * g j) = y * (g i * g j) ↔ x = y := fun x y => ⟨fun z => Int.eq_of_mul_eq_mul_right (Int.ne_of_gt k) z, fun z => by rw [z]⟩
  rw [l, m]
/-! ### put in order one by one -/
def ins (L : Nat → Nat → Bool) (o : List Nat) (i : Nat) : List Nat := o.take (o.filter fun x => L x i).length ++ [i] ++ o.drop (o.filter fun x => L x i).length
def ordL (L : Nat → Nat → Bool) (n : Nat) : List Nat := (List.range n).foldl (ins L) []
theorem ordL_succ (L : Nat → Nat → Bool) (n : Nat) : ordL L (n + 1) = ins L (ordL L n) n := by
  unfold ordL
  rw [List.range_succ, List.foldl_append]
  rfl
theorem ins_perm (L : Nat → Nat → Bool) (o : List Nat) (i : Nat) : (ins L o i).Perm (i :: o) := by
  unfold ins
  have h := List.perm_append_comm (l₁ := o.take (o.filter fun x => L x i).length) (l₂ := [i])
  have h2 := h.append_right (o.drop (o.filter fun x => L x i).length)
  refine h2.trans ?_
  rw [List.append_assoc, List.take_append_drop]
  exact List.Perm.refl _
theorem ordL_perm (L : Nat → Nat → Bool) : ∀ n, (ordL L n).Perm (List.range n)
  | 0 => List.Perm.refl _
  | n + 1 => by
    rw [ordL_succ, List.range_succ]
    exact (ins_perm L _ n).trans (((ordL_perm L n).cons n).trans (List.perm_append_comm (l₁ := [n])))
theorem split_ord {L : Nat → Nat → Bool} (O : Ord L) {i : Nat} : ∀ {o : List Nat}, o.Pairwise (fun x y => L x y = true) → i ∉ o → (∀ x ∈ o.take (o.filter fun x => L x i).length, L x i = true) ∧ (∀ x ∈ o.drop (o.filter fun x => L x i).length, L i x = true)
  | [], _, _ => by simp
  | x :: o, h, n => by
    obtain ⟨h1, h2⟩ := List.pairwise_cons.mp h
    have n1 : i ≠ x := fun z => n (by rw [z]; exact List.mem_cons_self)
    have n2 : i ∉ o := fun z => n (List.mem_cons_of_mem _ z)
    by_cases c : L x i = true
    · rw [List.filter_cons_of_pos (p := fun x => L x i) c, List.length_cons, List.take_succ_cons, List.drop_succ_cons]
      obtain ⟨a, b⟩ := split_ord O h2 n2
      refine ⟨fun y hy => ?_, b⟩
      rcases List.mem_cons.mp hy with e | e
      · rw [e]; exact c
      · exact a y e
    · have ci : L i x = true := (O.tot n1).resolve_right c
      have all : ∀ y ∈ x :: o, L i y = true := fun y hy => by
        rcases List.mem_cons.mp hy with e | e
        · rw [e]; exact ci
        · exact O.tr ci (h1 y e)
      have z : (x :: o).filter (fun x => L x i) = [] := List.filter_eq_nil_iff.mpr fun y hy => by
        rw [O.asy (all y hy)]
        decide
      rw [z]
      exact ⟨by simp, by simpa using all⟩
theorem ordL_sorted {L : Nat → Nat → Bool} (O : Ord L) : ∀ n, (ordL L n).Pairwise (fun x y => L x y = true)
  | 0 => .nil
  | n + 1 => by
    have h := ordL_sorted O n
    have nm : n ∉ ordL L n := fun z => by
      have := List.mem_range.mp ((ordL_perm L n).mem_iff.mp z)
      omega
    obtain ⟨a, b⟩ := split_ord O h nm
    rw [ordL_succ]
    unfold ins
    have hs : (ordL L n).take ((ordL L n).filter fun x => L x n).length ++ (ordL L n).drop ((ordL L n).filter fun x => L x n).length = ordL L n := List.take_append_drop _ _
    have hp := h
    rw [← hs] at hp
    obtain ⟨p1, p2, p3⟩ := List.pairwise_append.mp hp
    refine List.pairwise_append.mpr ⟨List.pairwise_append.mpr ⟨p1, List.pairwise_singleton _ _, fun x hx y hy => ?_⟩, p2, fun x hx y hy => ?_⟩
    · rw [List.mem_singleton.mp hy]; exact a x hx
    · rcases List.mem_append.mp hx with e | e
      · exact p3 x e y hy
      · rw [List.mem_singleton.mp e]; exact b y hy
/-- one order only -/
theorem order_one {L : Nat → Nat → Bool} (O : Ord L) : ∀ {a b : List Nat}, a.Perm b → a.Pairwise (fun x y => L x y = true) → b.Pairwise (fun x y => L x y = true) → a = b
  | [], b, h, _, _ => (List.nil_perm.mp h).symm
  | x :: a, [], h, _, _ => absurd h (by simp)
  | x :: a, y :: b, h, ha, hb => by
    obtain ⟨a1, a2⟩ := List.pairwise_cons.mp ha
    obtain ⟨b1, b2⟩ := List.pairwise_cons.mp hb
    have e : x = y := by
      have mx := h.mem_iff.mp (List.mem_cons_self (a := x) (l := a))
      have my := h.mem_iff.mpr (List.mem_cons_self (a := y) (l := b))
      rcases List.mem_cons.mp mx with e | e
      · exact e
      · rcases List.mem_cons.mp my with e2 | e2
        · exact e2.symm
        · have := O.asy (a1 y e2)
          rw [b1 x e] at this
          cases this
    subst e
    rw [order_one O (List.perm_cons _ |>.mp h) a2 b2]
/-! ### by the number of leaders -/
theorem filter_lt {p q : Nat → Bool} : ∀ {l : List Nat}, (∀ x ∈ l, p x = true → q x = true) → (∃ x ∈ l, q x = true ∧ p x = false) → (l.filter p).length < (l.filter q).length
  | [], _, ⟨x, h, _⟩ => nomatch h
  | y :: l, hi, he => by
    have le : ∀ {l : List Nat}, (∀ x ∈ l, p x = true → q x = true) → (l.filter p).length ≤ (l.filter q).length := fun {l} => by
      induction l with
      | nil => intro _; exact Nat.le_refl _
      | cons z l ih =>
        intro h
        have h2 := ih fun x hx => h x (List.mem_cons_of_mem _ hx)
        have h3 := h z List.mem_cons_self
        cases ep : p z <;> cases eq : q z <;> simp [List.filter_cons, ep, eq] at h3 ⊢ <;> omega
    obtain ⟨x, hx, qx, px⟩ := he
    have h3 := hi y List.mem_cons_self
    rcases List.mem_cons.mp hx with e | e
    · subst e
      have := le fun z hz => hi z (List.mem_cons_of_mem _ hz)
      rw [List.filter_cons_of_pos qx, List.filter_cons_of_neg (by rw [px]; decide), List.length_cons]
      omega
    · have ih := filter_lt (fun z hz => hi z (List.mem_cons_of_mem _ hz)) ⟨x, e, qx, px⟩
      cases ep : p y <;> cases eq : q y <;> simp [List.filter_cons, ep, eq] at h3 ⊢ <;> omega
def cnt (L : Nat → Nat → Bool) (n i : Nat) : Nat := ((List.range n).filter fun o => !decide (o = i) && L o i).length
theorem cnt_lt {L : Nat → Nat → Bool} (O : Ord L) {n i j : Nat} (hi : i < n) (h : L i j = true) : cnt L n i < cnt L n j := by
  have nij : i ≠ j := fun z => by rw [z, O.irr] at h; cases h
  refine filter_lt (fun x _ hx => ?_) ⟨i, List.mem_range.mpr hi, ?_, ?_⟩
  · simp only [Bool.and_eq_true, Bool.not_eq_true', decide_eq_false_iff_not] at hx ⊢
    have hj := O.tr hx.2 h
    exact ⟨fun z => (by rw [z, O.irr] at hj; cases hj), hj⟩
  · simp [nij, h]
  · simp
theorem rank_eq {L : Nat → Nat → Bool} (O : Ord L) {n : Nat} {qs : List (Int × Int)} (hp : qs.Perm ((List.range n).map fun i => ((cnt L n i : Int), (i : Int)))) (hs : qs.Pairwise fun p q => p.1 < q.1 ∨ (p.1 = q.1 ∧ p.2 ≤ q.2)) : qs.map (fun p => p.2) = (ordL L n).map fun (i : Nat) => (i : Int) := by
  have sh : ∀ p ∈ qs, ∃ i, i < n ∧ p = ((cnt L n i : Int), (i : Int)) := fun p h => by
    obtain ⟨i, hi, e⟩ := List.mem_map.mp (hp.mem_iff.mp h)
    exact ⟨i, List.mem_range.mp hi, e.symm⟩
  have e1 : qs = (qs.map fun p => p.2.toNat).map fun i => ((cnt L n i : Int), (i : Int)) := by
    rw [List.map_map]
    refine (List.map_id qs).symm.trans (List.map_congr_left fun p h => ?_)
    obtain ⟨i, _, rfl⟩ := sh p h
    rfl
  have p1 : (qs.map fun p => p.2.toNat).Perm (List.range n) := by
    have := hp.map fun p => p.2.toNat
    rw [List.map_map] at this
    have e : (List.range n).map ((fun p : Int × Int => p.2.toNat) ∘ fun i => ((cnt L n i : Int), (i : Int))) = List.range n := (List.map_congr_left fun i _ => rfl).trans (List.map_id _)
    rw [e] at this
    exact this
  have nd : (qs.map fun p => p.2.toNat).Pairwise fun x y => x ≠ y := (p1.nodup_iff).mpr List.nodup_range
  have so : (qs.map fun p => p.2.toNat).Pairwise fun x y => L x y = true := by
    generalize ei : (qs.map fun p => p.2.toNat) = is at e1 p1 nd
    rw [e1] at hs
    have h2 := List.pairwise_map.mp hs
    refine (List.Pairwise.and h2 nd).imp_of_mem fun {x y} hx hy ⟨a, b⟩ => ?_
    rcases O.tot b with l | l
    · exact l
    · have := cnt_lt O (List.mem_range.mp (p1.mem_iff.mp hy)) l
      simp only at a
      omega
  have e2 := order_one O (p1.trans (ordL_perm L n).symm) so (ordL_sorted O n)
  rw [← e2, List.map_map]
  refine List.map_congr_left fun p h => ?_
  obtain ⟨i, _, rfl⟩ := sh p h
  rfl
/-- places in a sorted list tell who leads -/
theorem place_lt {L : Nat → Nat → Bool} (O : Ord L) {o : List Nat} (h : o.Pairwise fun x y => L x y = true) {i j a b : Nat} (ha : o[i]? = some a) (hb : o[j]? = some b) : (i < j) ↔ L a b = true := by
  obtain ⟨hi, ei⟩ := List.getElem?_eq_some_iff.mp ha
  obtain ⟨hj, ej⟩ := List.getElem?_eq_some_iff.mp hb
  have p := List.pairwise_iff_getElem.mp h
  refine ⟨fun l => by rw [← ei, ← ej]; exact p i j hi hj l, fun l => ?_⟩
  rcases Nat.lt_trichotomy i j with q | q | q
  · exact q
  · subst q
    rw [ei] at ej
    subst ej
    rw [O.irr] at l
    cases l
  · have := p j i hj hi q
    rw [ei, ej] at this
    rw [O.asy this] at l
    cases l
end Sc

/-! k70, 1: who leads, rankings; the law's own orders. -/
namespace Sc
open PySem L2 Fw
open PyProof.Rows (envOfC)
section
variable {P : Program} {w : World} {K : PySem.W.Frag} {mg : Str → Option Value} {base : Heap}
/-! ### what leads -/
def priceF (fl : List Bid) (i : Nat) : Int := (fl[i]?.map fun b => b.price).getD 0
def pairF (Fs : List (Int × Int)) (i : Nat) : Int × Int := Fs[i]?.getD (0, 1)
def leadF (Fs : List (Int × Int)) (fl : List Bid) : Nat → Nat → Bool := lead (pairF Fs) (priceF fl)
def Gleads (ds : List PyData) (d : PyData) : Prop := ∃ (q : Bool) (fl : List Bid) (Fs : List (Int × Int)) (i j : Nat), FieldOk fl ∧ (∀ p ∈ Fs, Nb 400 p.1 ∧ Nb 400 p.2) ∧ i < fl.length ∧ j < fl.length ∧ Fs.length = fl.length ∧
  ds = [sq q (fl.map Bid.d), .list (Fs.map pairD), .int (i : Int), .int (j : Int)] ∧ d = .bool (leadF Fs fl i j)
theorem okleads (T : Txt K mg) : FnOk P w K mg base CX0 1 T.aleads T.dleads ["field", "found", "first", "second"] (spP K Gleads) := by
  refine pureOk T.Fleads scleads (by rintro _ _ ⟨q, fl, Fs, i, j, _, _, _, _, _, rfl, _⟩; rfl) fun cdv A outer s H E hr => ⟨_, (pss_cons (kpar (i := 4) (j := 5) (by rfl) scleads.nd (by decide) (kpa (pe_op op_mulW (pe_ix (r := rIxT K) ix_tup (pe_ix (r := rIxL K) ix_list (kvl 1) (kvl 2) (fun _ _ => rfl)) pe_int (fun _ _ => rfl)) (pe_ix (r := rIxT K) ix_tup (pe_ix (r := rIxL K) ix_list (kvl 1) (kvl 3) (fun _ _ => rfl)) pe_int (fun _ _ => rfl))) (kpa (pe_op op_mulW (pe_ix (r := rIxT K) ix_tup (pe_ix (r := rIxL K) ix_list (kvl 1) (kvl 3) (fun _ _ => rfl)) pe_int (fun _ _ => rfl)) (pe_ix (r := rIxT K) ix_tup (pe_ix (r := rIxL K) ix_list (kvl 1) (kvl 2) (fun _ _ => rfl)) pe_int (fun _ _ => rfl))) pa_nil)))
      (pss_cons (ps_if (pt_cmpR op_ne (kvl 4) (kvl 5) (nomark _)) (pss_one (ps_ret (pe_cmpR op_gt (kvl 4) (kvl 5) (nomark _)))) pss_nil)
      (pss_one (ps_ret (pe_cmpR (op_ltT hr.units0) (pe_tup (kpa (pe_ix (r := rIxT K) ix_tup (pe_ix (r := rIx K) ix_seq (kvl 0) (kvl 2) (fun _ _ => rfl)) pe_int (fun _ _ => rfl)) (kpa (kvl 2) pa_nil))) (pe_tup (kpa (pe_ix (r := rIxT K) ix_tup (pe_ix (r := rIx K) ix_seq (kvl 0) (kvl 3) (fun _ _ => rfl)) pe_int (fun _ _ => rfl)) (kpa (kvl 3) pa_nil))) (nomark _)))))), ?_⟩
  rintro _ _ ⟨q, fl, Fs, i, j, ol, ob, hi, hj, hl, rfl, rfl⟩ ms σ H Q h k
  have h : At K W0 ms ⟨H, H⟩ [.dat (sq q (fl.map Bid.d)), .dat (.list (Fs.map pairD)), .dat (.int (i : Int)), .dat (.int (j : Int)), .emp, .emp] σ H := h
  have ei : Fs[i]? = some (pairF Fs i) := by unfold pairF; rw [List.getElem?_eq_getElem (by omega)]; rfl
  have ej : Fs[j]? = some (pairF Fs j) := by unfold pairF; rw [List.getElem?_eq_getElem (by omega)]; rfl
  have ni := ob _ (List.mem_of_getElem? ei)
  have nj := ob _ (List.mem_of_getElem? ej)
  have di : (Fs.map pairD)[i]? = some (pairD (pairF Fs i)) := by rw [List.getElem?_map, ei]; rfl
  have dj : (Fs.map pairD)[j]? = some (pairD (pairF Fs j)) := by rw [List.getElem?_map, ej]; rfl
  have bi : (fl.map Bid.d)[i]? = some fl[i].d := by rw [List.getElem?_map, List.getElem?_eq_getElem hi]; rfl
  have bj : (fl.map Bid.d)[j]? = some fl[j].d := by rw [List.getElem?_map, List.getElem?_eq_getElem hj]; rfl
  have pi : priceF fl i = fl[i].price := by unfold priceF; rw [List.getElem?_eq_getElem hi]; rfl
  have pj : priceF fl j = fl[j].price := by unfold priceF; rw [List.getElem?_eq_getElem hj]; rfl
  have M : ∀ {x y : Int}, Nb 400 x → Nb 400 y → CMulW x y := fun g h => cmw (g.mono (by decide)) (h.mono (by decide))
  refine q_par h (ea_cons (ev_mulW (i := (pairF Fs i).1) (j := (pairF Fs j).2) (ev_ixT (ev_ixL (evd_var rfl) (evd_var rfl) (atI_nat di)) ev_int rfl) (ev_ixT (ev_ixL (evd_var rfl) (evd_var rfl) (atI_nat dj)) ev_int rfl) (M ni.1 nj.2))
    (ea_cons (ev_mulW (i := (pairF Fs j).1) (j := (pairF Fs i).2) (ev_ixT (ev_ixL (evd_var rfl) (evd_var rfl) (atI_nat dj)) ev_int rfl) (ev_ixT (ev_ixL (evd_var rfl) (evd_var rfl) (atI_nat di)) ev_int rfl) (M nj.1 ni.2)) ea_nil)) fun σ1 H1 h1 _ => ?_
  dsimp only [List.set] at h1
  by_cases c : (pairF Fs i).1 * (pairF Fs j).2 = (pairF Fs j).1 * (pairF Fs i).2
  · refine q_when (b := false) h1 (et_eq (et_test (ev_neI (evd_var rfl) (evd_var rfl))) (by rw [decide_eq_true c]; rfl)) (fun q => nomatch q) fun _ H2 h2 _ => ?_
    refine s_fin h2 (evd_eq (ev_ltT (ns := [fl[i].price, (i : Int)]) (ks := [fl[j].price, (j : Int)]) (ev_tup (ed_cons (ev_ixT (d := .int fl[i].price) (ev_ixS (evd_var rfl) (evd_var rfl) (atI_nat bi)) ev_int rfl) (ed_cons (evd_var rfl) ed_nil)) (by show 2 ≤ 100000; decide)) (ev_tup (ed_cons (ev_ixT (d := .int fl[j].price) (ev_ixS (evd_var rfl) (evd_var rfl) (atI_nat bj)) ev_int rfl) (ed_cons (evd_var rfl) ed_nil)) (by show 2 ≤ 100000; decide))) (congrArg PyData.bool ?_)) k
    unfold leadF lead
    rw [if_pos c, pi, pj]
    show (if fl[i].price = fl[j].price then (if (i : Int) = (j : Int) then false else decide ((i : Int) < (j : Int))) else decide (fl[i].price < fl[j].price)) = _
    split
    · split
      · exact (decide_eq_false (by omega)).symm
      · rw [Bool.eq_iff_iff, decide_eq_true_eq, decide_eq_true_eq]; omega
    · rfl
  · refine q_when (b := true) h1 (et_eq (et_test (ev_neI (evd_var rfl) (evd_var rfl))) (by rw [decide_eq_false c]; rfl)) (fun _ H2 h2 _ => ?_) (fun q => nomatch q)
    refine s_fin h2 (evd_eq (ev_gt (evd_var rfl) (evd_var rfl)) (congrArg PyData.bool ?_)) k
    unfold leadF lead
    rw [if_neg c]
theorem ok_law_leads (T : Txt K mg) : FnOk P w K mg base CX0 1 T.a_law_leads T.d_law_leads ["field", "found", "first", "second"] (spP K fun ds d => ∃ (fl : List Bid) (Fs : List (Int × Int)) (i j : Nat), FieldOk fl ∧ (∀ p ∈ Fs, Nb 400 p.1 ∧ Nb 400 p.2) ∧ i < fl.length ∧ j < fl.length ∧ Fs.length = fl.length ∧
  ds = [.list (fl.map Bid.d), .list (Fs.map pairD), .int (i : Int), .int (j : Int)] ∧ d = .bool (leadF Fs fl i j)) := by
  refine pureOk T.F_law_leads sc_law_leads (by rintro _ _ ⟨fl, Fs, i, j, _, _, _, _, _, rfl, _⟩; rfl) fun cdv A outer s H E hr => ⟨_, (pss_cons (kpar (i := 4) (j := 5) (by rfl) sc_law_leads.nd (by decide) (kpa (pe_op op_mulW (pe_ix (r := rIxT K) ix_tup (pe_ix (r := rIxL K) ix_list (kvl 1) (kvl 2) (fun _ _ => rfl)) pe_int (fun _ _ => rfl)) (pe_ix (r := rIxT K) ix_tup (pe_ix (r := rIxL K) ix_list (kvl 1) (kvl 3) (fun _ _ => rfl)) pe_int (fun _ _ => rfl))) (kpa (pe_op op_mulW (pe_ix (r := rIxT K) ix_tup (pe_ix (r := rIxL K) ix_list (kvl 1) (kvl 3) (fun _ _ => rfl)) pe_int (fun _ _ => rfl)) (pe_ix (r := rIxT K) ix_tup (pe_ix (r := rIxL K) ix_list (kvl 1) (kvl 2) (fun _ _ => rfl)) pe_int (fun _ _ => rfl))) pa_nil)))
      (pss_cons (ps_if (pt_cmpR op_ne (kvl 4) (kvl 5) (nomark _)) (pss_one (ps_ret (pe_cmpR op_gt (kvl 4) (kvl 5) (nomark _)))) pss_nil)
      (pss_cons (ps_if (pt_cmpR op_ne (pe_ix (r := rIxT K) ix_tup (pe_ix (r := rIxL K) ix_list (kvl 0) (kvl 2) (fun _ _ => rfl)) pe_int (fun _ _ => rfl)) (pe_ix (r := rIxT K) ix_tup (pe_ix (r := rIxL K) ix_list (kvl 0) (kvl 3) (fun _ _ => rfl)) pe_int (fun _ _ => rfl)) (nomark _)) (pss_one (ps_ret (pe_cmpR op_lt (pe_ix (r := rIxT K) ix_tup (pe_ix (r := rIxL K) ix_list (kvl 0) (kvl 2) (fun _ _ => rfl)) pe_int (fun _ _ => rfl)) (pe_ix (r := rIxT K) ix_tup (pe_ix (r := rIxL K) ix_list (kvl 0) (kvl 3) (fun _ _ => rfl)) pe_int (fun _ _ => rfl)) (nomark _)))) pss_nil)
      (pss_one (ps_ret (pe_cmpR op_lt (kvl 2) (kvl 3) (nomark _))))))), ?_⟩
  rintro _ _ ⟨fl, Fs, i, j, ol, ob, hi, hj, hl, rfl, rfl⟩ ms σ H Q h k
  have h : At K W0 ms ⟨H, H⟩ [.dat (.list (fl.map Bid.d)), .dat (.list (Fs.map pairD)), .dat (.int (i : Int)), .dat (.int (j : Int)), .emp, .emp] σ H := h
  have ei : Fs[i]? = some (pairF Fs i) := by unfold pairF; rw [List.getElem?_eq_getElem (by omega)]; rfl
  have ej : Fs[j]? = some (pairF Fs j) := by unfold pairF; rw [List.getElem?_eq_getElem (by omega)]; rfl
  have ni := ob _ (List.mem_of_getElem? ei)
  have nj := ob _ (List.mem_of_getElem? ej)
  have di : (Fs.map pairD)[i]? = some (pairD (pairF Fs i)) := by rw [List.getElem?_map, ei]; rfl
  have dj : (Fs.map pairD)[j]? = some (pairD (pairF Fs j)) := by rw [List.getElem?_map, ej]; rfl
  have bi : (fl.map Bid.d)[i]? = some fl[i].d := by rw [List.getElem?_map, List.getElem?_eq_getElem hi]; rfl
  have bj : (fl.map Bid.d)[j]? = some fl[j].d := by rw [List.getElem?_map, List.getElem?_eq_getElem hj]; rfl
  have pi : priceF fl i = fl[i].price := by unfold priceF; rw [List.getElem?_eq_getElem hi]; rfl
  have pj : priceF fl j = fl[j].price := by unfold priceF; rw [List.getElem?_eq_getElem hj]; rfl
  have M : ∀ {x y : Int}, Nb 400 x → Nb 400 y → CMulW x y := fun g h => cmw (g.mono (by decide)) (h.mono (by decide))
  refine q_par h (ea_cons (ev_mulW (i := (pairF Fs i).1) (j := (pairF Fs j).2) (ev_ixT (ev_ixL (evd_var rfl) (evd_var rfl) (atI_nat di)) ev_int rfl) (ev_ixT (ev_ixL (evd_var rfl) (evd_var rfl) (atI_nat dj)) ev_int rfl) (M ni.1 nj.2))
    (ea_cons (ev_mulW (i := (pairF Fs j).1) (j := (pairF Fs i).2) (ev_ixT (ev_ixL (evd_var rfl) (evd_var rfl) (atI_nat dj)) ev_int rfl) (ev_ixT (ev_ixL (evd_var rfl) (evd_var rfl) (atI_nat di)) ev_int rfl) (M nj.1 ni.2)) ea_nil)) fun σ1 H1 h1 _ => ?_
  dsimp only [List.set] at h1
  have pe : ∀ {ρ : List Sl} {x y : Nat} {v : Nat} {b : Bid}, ρ[x]? = some (.dat (.list (fl.map Bid.d))) → ρ[y]? = some (.dat (.int (v : Int))) → (fl.map Bid.d)[v]? = some b.d → Evd K W0 (tOp (rIxT K) (tOp (rIxL K) (tVar x) (tVar y)) (tC (.int 1))) ρ (.int b.price) := fun hx hy hb => ev_ixT (ev_ixL (evd_var hx) (evd_var hy) (atI_nat hb)) ev_int rfl
  by_cases c : (pairF Fs i).1 * (pairF Fs j).2 = (pairF Fs j).1 * (pairF Fs i).2
  · refine q_when (b := false) h1 (et_eq (et_test (ev_neI (evd_var rfl) (evd_var rfl))) (by rw [decide_eq_true c]; rfl)) (fun q => nomatch q) fun _ H2 h2 _ => ?_
    by_cases c2 : fl[i].price = fl[j].price
    · refine q_when (b := false) h2 (et_eq (et_test (ev_neI (pe rfl rfl bi) (pe rfl rfl bj))) (by rw [decide_eq_true c2]; rfl)) (fun q => nomatch q) fun _ H3 h3 _ => ?_
      refine s_fin h3 (evd_eq (ev_lt (evd_var rfl) (evd_var rfl)) (congrArg PyData.bool ?_)) k
      unfold leadF lead
      rw [if_pos c, pi, pj, if_pos c2, Bool.eq_iff_iff, decide_eq_true_eq, decide_eq_true_eq]
      omega
    · refine q_when (b := true) h2 (et_eq (et_test (ev_neI (pe rfl rfl bi) (pe rfl rfl bj))) (by rw [decide_eq_false c2]; rfl)) (fun _ H3 h3 _ => ?_) (fun q => nomatch q)
      refine s_fin h3 (evd_eq (ev_lt (pe rfl rfl bi) (pe rfl rfl bj)) (congrArg PyData.bool ?_)) k
      unfold leadF lead
      rw [if_pos c, pi, pj, if_neg c2]
  · refine q_when (b := true) h1 (et_eq (et_test (ev_neI (evd_var rfl) (evd_var rfl))) (by rw [decide_eq_false c]; rfl)) (fun _ H2 h2 _ => ?_) (fun q => nomatch q)
    refine s_fin h2 (evd_eq (ev_gt (evd_var rfl) (evd_var rfl)) (congrArg PyData.bool ?_)) k
    unfold leadF lead
    rw [if_neg c]
end
end Sc

/-! k70, 2: rankings. -/
namespace Sc
open PySem L2 Fw
open PyProof.Rows (envOfC)
section
variable {P : Program} {w : World} {K : PySem.W.Frag} {mg : Str → Option Value} {base : Heap}
theorem q_tgtDF {W : Wd} {ms : List Addr} {B : Bs} {H : Hp} {ρ : List Sl} {σ : L2.St} {D : Ends} {tz : TS} {ta tb : TE} {d : PyData} {i j : Nat} {Ψ : List PyData → Prop} (h : At K W ms B ρ σ H) (e1 : Evd K W ta ρ d) (e2 : EvF K W tb ρ Ψ)
    (k : ∀ l ds σ' H', Ψ ds → At K W (l :: ms) B ((ρ.set i (.dat d)).set j (.raw (.ref l))) σ' H' → Own K W (l :: ms) B l ds H' → l ∉ ms → B.hb l = none → tz D σ' H') : tSeq (tAsg (tTup (tCons ta (tCons tb tNil))) (gTup K 2 (gCons (gName i) (gCons (gName j) gNil)))) tz D σ H :=
  e1 ms B σ H h _ fun v1 H1 h1 x1 o1 => e2 ms B σ H1 h1 _ fun ds l vs H2 ψ h2 x2 hl e2 o2 => by
    obtain ⟨l0, lm, lw⟩ := h1.fresh hl
    have m1 : Same (cut ms H1) (cut (l :: ms) H2) := (cut_new hl).trans (x2.cut fun a z => List.mem_cons_of_mem _ (h1.sub a z))
    have a2 := ((h1.adopt x2 h2 hl e2).set (s := .dat d) (dp_mono m1 _ _ o1) i).set (s := .raw (.ref l)) rfl j
    have own : Own K W (l :: ms) B l ds H2 := ⟨List.mem_cons_self, lw, l0, vs, e2, o2⟩
    exact ⟨show 2 ≤ sizeLine by decide, fun p hp => ⟨p, [v1, .ref l], rfl, .inl (.inl upd_same), rfl, v1, [.ref l], rfl, _, [], rfl, rfl, k l ds _ _ ψ (a2.same (same_put hp)) (own.same (same_put hp)) lm (h1.freshB hl)⟩⟩
/-- the scores that rank -/
def rankF (f : List Tm) (fl : List Bid) : List (Int × Int) := fl.map (scoreOf f fl)
def rankL (f : List Tm) (fl : List Bid) : Nat → Nat → Bool := leadF (rankF f fl) fl
def orderD (f : List Tm) (fl : List Bid) : List PyData := (ordL (rankL f fl) fl.length).map fun (i : Nat) => .int (i : Int)
theorem nb_div' {a : Int} {n g : Nat} (h0 : 0 ≤ a) (h : Nb n a) : Nb n (a / (g : Int)) := by
  have h1 : a / (g : Int) ≤ a := Int.ediv_le_self _ h0
  have h2 : 0 ≤ a / (g : Int) := Int.ediv_nonneg h0 (by omega)
  exact Nat.lt_of_le_of_lt (by omega) h
theorem nb_rank {f : List Tm} {fl : List Bid} (of : FormOk f) (ol : FieldOk fl) : ∀ p ∈ rankF f fl, Nb 400 p.1 ∧ Nb 400 p.2 := fun p h => by
  obtain ⟨b, hb, rfl⟩ := List.mem_map.mp h
  have q := psOk ol hb
  have ob := ol.2 b hb
  obtain ⟨n1, n2⟩ := nb_preS q ob of
  exact ⟨(nb_div' (preS_nn q ob of) n1).mono (by decide), (nb_div' (Int.le_of_lt (preS_pos q)) n2).mono (by decide)⟩
theorem red_pos {a b : Int} (h : 0 < b) : 0 < (red a b).2 := by
  have g : 0 < Nat.gcd a.natAbs b.natAbs := Nat.gcd_pos_of_pos_right _ (by omega)
  have l : Nat.gcd a.natAbs b.natAbs ≤ b.natAbs := Nat.gcd_le_right _ (by omega)
  have : (1 : Int) ≤ b / ((Nat.gcd a.natAbs b.natAbs : Nat) : Int) := Int.le_ediv_of_mul_le (by omega) (by omega)
  show 0 < b / ((Nat.gcd a.natAbs b.natAbs : Nat) : Int)
  omega
theorem pos_rank {f : List Tm} {fl : List Bid} (ol : FieldOk fl) (i : Nat) : 0 < (pairF (rankF f fl) i).2 := by
  unfold pairF rankF
  rw [List.getElem?_map]
  cases e : fl[i]? with
  | none => exact (by decide : (0 : Int) < 1)
  | some b =>
    have mb := List.mem_of_getElem? e
    show 0 < (scoreOf f fl b).2
    unfold scoreOf
    exact red_pos (preS_pos (psOk ol mb))
theorem rank_ord {f : List Tm} {fl : List Bid} (ol : FieldOk fl) : Ord (rankL f fl) := lead_ord (pos_rank ol)
theorem scoresD_eq (f : List Tm) (fl : List Bid) : scoresD f fl = (rankF f fl).map pairD := by
  unfold scoresD rankF
  rw [List.map_map]
  rfl
def Granking (ds : List PyData) (es : List PyData) : Prop := ∃ (f : List Tm) (q : Bool) (fl : List Bid), FormOk f ∧ FieldOk fl ∧ ds = [formD f, sq q (fl.map Bid.d)] ∧ es = orderD f fl
theorem okranking_of (T : Txt K mg) : FnOk P w K mg base CX0 9 T.aranking_of T.dranking_of ["formula", "field"] (spF K Granking) := by
  refine pureOkF T.Franking_of scranking_of (by rintro _ _ ⟨f, q, fl, _, _, rfl, _⟩; rfl) fun cdv A outer s H E hr => ⟨_, (pss_cons (kasg (pe_tup (kpa (kcall (okscores_of T) (hr.mono (by decide)) T.g_scores_of T.k_scores_of T.b_scores_of (kpa (kvl 0) (kpa (kvc 1) pa_nil))) (kpa (pe_lst pa_nil) pa_nil))) (kgt (n := 2) (by rfl) (kgs (kgc 2 scranking_of.nd) (kgs (kgl 3 scranking_of.nd) pgs_nil))))
      (pss_cons (ps_for PassesOwn.never rfl (krg1 T.n_range (kpa (kB (r := rLenQ K) call_len_seq T.n_len (kpa (kvc 1) pa_nil)) pa_nil)) (kgc 4 scranking_of.nd) (pss_cons (ps_setLc (i := 5) (own := [("other", 6)]) (g := (gName 6)) (by rfl) scranking_of.nd (by kernel_rfl) (by kernel_rfl) kswap (krg1 T.n_range (kpa (kB (r := rLenQ K) call_len_seq T.n_len (kpa (kvc 1) pa_nil)) pa_nil)) (blkOk_by (by kernel_rfl)) (fun _ _ _ _ _ => (kgl 6 scranking_of.nd)) (fun _ _ _ _ _ => (pts_one (PW.pt (pw_and (pt_cmpR op_ne (kvl 6) (kvc 4) (nomark _)) (pw_and1 (kval (kcall (okleads T) (hr.mono (by decide)) T.g_leads T.k_leads T.b_leads (kpa (kvc 1) (kpa (kvc 2) (kpa (kvl 6) (kpa (kvc 4) pa_nil))))))))))) (fun _ _ _ _ _ => (kvl 6)))
      (pss_one (kexpr (show PE _ _ (tBM K "list" _ _ _) from kmeth PySem.F.plainAttrs_list PySem.F.slot_list_append PySem.F.type_list_append mt_append (kvl 3) (kpa (pe_tup (kpa (kB (r := rLenQ K) call_len_seq T.n_len (kpa (kvl 5) pa_nil)) (kpa (kvc 4) pa_nil))) pa_nil))))))
      (pss_one (ps_ret (pe_lc (own := [("place", 7), ("index", 4)]) (g := (gTup K 2 (gCons (gName 7) (gCons (gName 4) gNil)))) (tt := tYes) (by rfl) scranking_of.nd (show PI _ _ _ (iList K _) from pi_list (kB (r := rSortedPD K) cr_sortedPD T.n_sorted (kpa (kvl 3) pa_nil))) (blkOk_by (by kernel_rfl)) (fun _ _ _ _ _ => (kgt (n := 2) (by rfl) (kgs (kgl 7 scranking_of.nd) (kgs (kgl 4 scranking_of.nd) pgs_nil)))) (fun _ _ _ _ _ => pts_nil) (fun _ _ _ _ _ => (kvl 4))))))), ?_⟩
  rintro _ _ ⟨f, q, fl, of, ol, rfl, rfl⟩ ms σ H Q h k
  have h : At K W0 ms ⟨H, H⟩ [.dat (formD f), .dat (sq q (fl.map Bid.d)), .emp, .emp, .emp, .emp, .emp, .emp] σ H := h
  have lf := ol.1
  have O := rank_ord (f := f) ol
  have lr : (rankF f fl).length = fl.length := List.length_map _
  have nr := nb_rank of ol
  refine q_tgtDF h (evd_eq (ev_of_ef (ef_call (ed_cons (evd_var rfl) (ed_cons (evd_var rfl) ed_nil)) ⟨f, q, fl, of, ol, rfl, rfl⟩)) (congrArg PyData.list (scoresD_eq f fl))) (ef_lst ed_nil (by decide)) fun l ds σ1 H1 e1 h1 o1 lm lb => ?_
  subst e1
  dsimp only [List.set] at h1
  have Hq : At K W0 (l :: ms) ⟨H, H⟩ [.dat (formD f), .dat (sq q (fl.map Bid.d)), .dat (.list ((rankF f fl).map pairD)), .raw (.ref l), .emp, .emp, .emp, .emp] σ1 H1 := h1
  have el : ((fl.map Bid.d).length : Int).toNat = fl.length := by rw [List.length_map, Int.toNat_natCast]
  have rng : ∀ {W : Wd} {ρ : List Sl}, ρ[1]? = some (.dat (sq q (fl.map Bid.d))) → Src K W (iRng1 (tCons (tCB (rLenQ K) (tCons (tVar 1) tNil)) tNil)) ρ ((List.range fl.length).map fun i => PyData.int (i : Nat)) := fun {W ρ} hr => by
    have sr := src_range (K := K) (W := W) (ρ := ρ) (ed_cons (ev_lenS (b := q) (ds := fl.map Bid.d) (te := tVar 1) (evd_var hr)) ed_nil) (by rw [List.length_map]; omega) (by omega)
    rw [el] at sr
    exact sr
  have cl : ∀ i, cnt (rankL f fl) fl.length i ≤ fl.length := fun i => by
    unfold cnt
    exact Nat.le_trans (List.length_filter_le _ _) (by rw [List.length_range]; exact Nat.le_refl _)
  refine q_for h1 (R := fun i => [.dat (formD f), .dat (sq q (fl.map Bid.d)), .dat (.list ((rankF f fl).map pairD)), .raw (.ref l), .emp, .emp, .emp, .emp]) (S := fun i => [.dat (formD f), .dat (sq q (fl.map Bid.d)), .dat (.list ((rankF f fl).map pairD)), .raw (.ref l), .dat (.int (i : Nat)), .emp, .emp, .emp])
    (X := fun i H' => Own K W0 (l :: ms) ⟨H, H⟩ l (((List.range i).map fun j => ((cnt (rankL f fl) fl.length j : Int), (j : Int))).map pairI) H') (rng rfl) (Le.refl _) (fun H3 h3 x3 => o1.go h1.sub x3) (fun i d hd => ⟨[4], ?_⟩) (fun Hb i d σ3 H3 hd h3 o3 => ?_) (fun σ3 H3 h3 o3 => ?_) (fun i H H' s _ o => o.same s)
  · rw [List.getElem?_map] at hd
    cases e : (List.range fl.length)[i]? with
    | none => rw [e] at hd; cases hd
    | some j =>
      rw [e] at hd
      obtain ⟨hl, e'⟩ := List.getElem?_eq_some_iff.mp e
      rw [List.getElem_range] at e'
      subst e'
      cases hd
      exact tg_name
  · have hi : i < fl.length := by
      have := (List.getElem?_eq_some_iff.mp hd).1
      rw [List.length_map, List.length_range] at this
      exact this
    have o3' := o3.re Hb
    refine q_asg h3 (ev_lc1 (xs := List.range fl.length) (enc := fun j => .int (j : Nat)) (f := fun j => .int (j : Nat)) (p := fun o => !decide (o = i) && rankL f fl o i) (j := 6) (rng rfl) (by rw [List.length_range]; omega) (fun x hx => ?_) (fun x _ _ => evd_var rfl)) fun σ4 H4 h4 x4 => ?_
    · have hx' : x < fl.length := List.mem_range.mp hx
      refine et_eq (et_and (et_test (ev_neI (evd_var rfl) (evd_var rfl))) fun _ => et_B (ev_call (ed_cons (evd_var rfl) (ed_cons (evd_var rfl) (ed_cons (evd_var rfl) (ed_cons (evd_var rfl) ed_nil)))) ⟨q, fl, rankF f fl, x, i, ol, nr, hx', hi, lr, rfl, rfl⟩)) ?_
      congr 1
      congr 1
      rw [Bool.eq_iff_iff, decide_eq_true_eq, decide_eq_true_eq]
      omega
    dsimp only [List.set] at h4
    refine s_app (Φ := fun d => d = pairI ((cnt (rankL f fl) fl.length i : Int), (i : Int))) h4 (o3'.go h3.sub x4) rfl (by rw [List.length_map, List.length_map, List.length_range]; omega) (isd_evd (P := fun d => d = pairI ((cnt (rankL f fl) fl.length i : Int), (i : Int))) (ev_tup (ed_cons (ev_lenL (evd_var rfl)) (ed_cons (evd_var rfl) ed_nil)) (by show 2 ≤ 100000; decide)) ?_) fun d H5 e5 h5 o5 => ⟨h5.le (.same (.same (.same (.same (.emp (.emp (.emp (.emp .nil)))))))), ?_⟩
    · rw [List.length_map]
      rfl
    · subst e5
      rw [List.range_succ, List.map_append, List.map_append]
      exact o5.un
  · rw [List.length_map, List.length_range] at o3
    have h4 := h3.lend o3 lm lb (i := 3) rfl
    dsimp only [List.set] at h4
    have es : Evd K W0 (tCB (rSortedPD K) (tCons (tVar 3) tNil)) [.dat (formD f), .dat (sq q (fl.map Bid.d)), .dat (.list ((rankF f fl).map pairD)), .dat (.list (((List.range fl.length).map fun j => ((cnt (rankL f fl) fl.length j : Int), (j : Int))).map pairI)), .emp, .emp, .emp, .emp]
        (.list ((ordL (rankL f fl) fl.length).map fun j => pairI ((cnt (rankL f fl) fl.length j : Int), (j : Int)))) := ev_of_ef ((ef_sortedP (evd_var rfl)).imp fun es ⟨qs, e, hp, hs⟩ => by
      have r := rank_eq O hp hs
      have sh : qs = (qs.map fun p => p.2).map fun z => ((cnt (rankL f fl) fl.length z.toNat : Int), z) := by
        rw [List.map_map]
        refine (List.map_id qs).symm.trans (List.map_congr_left fun p h => ?_)
        obtain ⟨i, hi, rfl⟩ := List.mem_map.mp (hp.mem_iff.mp h)
        rfl
      rw [e, sh, r, List.map_map, List.map_map]
      rfl)
    have pl := (ordL_perm (rankL f fl) fl.length).length_eq
    rw [List.length_range] at pl
    have ec := ef_lc (K := K) (W := W0) (xs := ordL (rankL f fl) fl.length) (enc := fun j => pairI ((cnt (rankL f fl) fl.length j : Int), (j : Int))) (p := fun _ => true) (Φ := fun j d => d = .int (j : Int)) (vs := [7, 4]) (tt := tYes) (te := tVar 4)
      (g := gTup K 2 (gCons (gName 7) (gCons (gName 4) gNil)))
      (S := fun j => [.dat (formD f), .dat (sq q (fl.map Bid.d)), .dat (.list ((rankF f fl).map pairD)), .dat (.list (((List.range fl.length).map fun j => ((cnt (rankL f fl) fl.length j : Int), (j : Int))).map pairI)), .dat (.int (j : Int)), .emp, .emp, .dat (.int (cnt (rankL f fl) fl.length j : Int))])
      (src_list es) (by omega) (fun x _ => ⟨[7, 4], tg_tup (tgs_cons tg_name (tgs_cons tg_name tgs_nil)) rfl, fun _ z => z⟩) (fun _ _ => et_yes) fun x _ _ => en_of_ev (evd_var rfl) ⟨_, rfl, rfl⟩
    refine s_retF h4 ec fun es p ws H' e s hp e2 o2 => ?_
    have e3 := paired_map e
    rw [List.filter_eq_self.mpr fun _ _ => rfl] at e3
    rw [e3] at o2
    exact k p ws H' s hp e2 o2
end
end Sc

/-! k70, 3: ranking, ahead; the law's order. -/
namespace Sc
open PySem L2 Fw
open PyProof.Rows (envOfC)
section
variable {P : Program} {w : World} {K : PySem.W.Frag} {mg : Str → Option Value} {base : Heap}
theorem okranking (T : Txt K mg) : FnOk P w K mg base CX0 10 T.aranking T.dranking ["formula", "field"] (spF K Granking) := by
  refine pureOkF T.Franking scranking (by rintro _ _ ⟨f, q, fl, _, _, rfl, _⟩; rfl) fun cdv A outer s H E hr => ⟨_, (pss_cons (kexpr (kcall (okneed_formula T) (hr.mono (by decide)) T.g_need_formula T.k_need_formula T.b_need_formula (kpa (kvl 0) pa_nil)))
      (pss_cons (kexpr (kcall (okneed_field T) (hr.mono (by decide)) T.g_need_field T.k_need_field T.b_need_field (kpa (kvl 1) pa_nil)))
      (pss_one (ps_ret (kcall (okranking_of T) (hr.mono (by decide)) T.g_ranking_of T.k_ranking_of T.b_ranking_of (kpa (kvl 0) (kpa (kvl 1) pa_nil))))))), ?_⟩
  rintro _ _ ⟨f, q, fl, of, ol, rfl, rfl⟩ ms σ H Q h k
  refine q_drop h (ev_call (ed_cons (evd_var rfl) ed_nil) ⟨f, of, rfl, rfl⟩) fun H1 h1 _ => ?_
  refine q_drop h1 (ev_call (ed_cons (evd_var rfl) ed_nil) ⟨q, fl, ol, rfl, rfl⟩) fun H2 h2 _ => ?_
  exact s_retF h2 (ef_call (ed_cons (evd_var rfl) (ed_cons (evd_var rfl) ed_nil)) ⟨f, q, fl, of, ol, rfl, rfl⟩) fun es p ws H' e s hp e2 o2 => by
    subst e
    exact k p ws H' s hp e2 o2
def Gahead (ds : List PyData) (d : PyData) : Prop := ∃ (f : List Tm) (q : Bool) (fl : List Bid) (i j : Nat), FormOk f ∧ FieldOk fl ∧ i < fl.length ∧ j < fl.length ∧ i ≠ j ∧ ds = [formD f, sq q (fl.map Bid.d), .int (i : Int), .int (j : Int)] ∧ d = .bool (rankL f fl i j)
theorem okahead (T : Txt K mg) : FnOk P w K mg base CX0 9 T.aahead T.dahead ["formula", "field", "first", "second"] (spP K Gahead) := by
  refine pureOk T.Fahead scahead (by rintro _ _ ⟨f, q, fl, i, j, _, _, _, _, _, rfl, _⟩; rfl) fun cdv A outer s H E hr => ⟨_, (pss_cons (kexpr (kcall (okneed_formula T) (hr.mono (by decide)) T.g_need_formula T.k_need_formula T.b_need_formula (kpa (kvl 0) pa_nil)))
      (pss_cons (kexpr (kcall (okneed_field T) (hr.mono (by decide)) T.g_need_field T.k_need_field T.b_need_field (kpa (kvl 1) pa_nil)))
      (pss_cons (kexpr (kcall (okneed_index T) (hr.mono (by decide)) T.g_need_index T.k_need_index T.b_need_index (kpa (kvl 1) (kpa (kvl 2) pa_nil))))
      (pss_cons (kexpr (kcall (okneed_index T) (hr.mono (by decide)) T.g_need_index T.k_need_index T.b_need_index (kpa (kvl 1) (kpa (kvl 3) pa_nil))))
      (pss_cons (ps_if (pt_cmpR op_eq (kvl 2) (kvl 3) (nomark _)) (pss_one ps_never) pss_nil)
      (pss_one (ps_ret (kcall (okleads T) (hr.mono (by decide)) T.g_leads T.k_leads T.b_leads (kpa (kvl 1) (kpa (kcall (okscores_of T) (hr.mono (by decide)) T.g_scores_of T.k_scores_of T.b_scores_of (kpa (kvl 0) (kpa (kvl 1) pa_nil))) (kpa (kvl 2) (kpa (kvl 3) pa_nil)))))))))))), ?_⟩
  rintro _ _ ⟨f, q, fl, i, j, of, ol, hi, hj, nij, rfl, rfl⟩ ms σ H Q h k
  have h : At K W0 ms ⟨H, H⟩ [.dat (formD f), .dat (sq q (fl.map Bid.d)), .dat (.int (i : Int)), .dat (.int (j : Int))] σ H := h
  refine q_drop h (ev_call (ed_cons (evd_var rfl) ed_nil) ⟨f, of, rfl, rfl⟩) fun H1 h1 _ => ?_
  refine q_drop h1 (ev_call (ed_cons (evd_var rfl) ed_nil) ⟨q, fl, ol, rfl, rfl⟩) fun H2 h2 _ => ?_
  refine q_drop h2 (ev_call (ed_cons (evd_var rfl) (ed_cons (evd_var rfl) ed_nil)) ⟨q, fl, i, hi, rfl, rfl⟩) fun H3 h3 _ => ?_
  refine q_drop h3 (ev_call (ed_cons (evd_var rfl) (ed_cons (evd_var rfl) ed_nil)) ⟨q, fl, j, hj, rfl, rfl⟩) fun H4 h4 _ => ?_
  refine q_unless h4 (et_eq (et_test (ev_eqI (evd_var rfl) (evd_var rfl))) (decide_eq_false (by omega))) fun H5 h5 => ?_
  exact s_fin h5 (ev_call (ed_cons (evd_var rfl) (ed_cons (evd_eq (ev_of_ef (ef_call (ed_cons (evd_var rfl) (ed_cons (evd_var rfl) ed_nil)) ⟨f, q, fl, of, ol, rfl, rfl⟩)) (congrArg PyData.list (scoresD_eq f fl))) (ed_cons (evd_var rfl) (ed_cons (evd_var rfl) ed_nil))))
    ⟨q, fl, rankF f fl, i, j, ol, nb_rank of ol, hi, hj, List.length_map _, rfl, rfl⟩) k
/-! ### the law's order -/
def overs (f : List Tm) (fl : List Bid) : List (Int × Int) := fl.map (lawOver f (priceL fl))
theorem law_same {f : List Tm} {fl : List Bid} (of : FormOk f) (ol : FieldOk fl) (i j : Nat) : leadF (overs f fl) fl i j = rankL f fl i j := by
  have gg : ∀ i : Nat, 0 < (match fl[i]? with | some b => ((Nat.gcd (lawOver f (priceL fl) b).1.natAbs (lawOver f (priceL fl) b).2.natAbs : Nat) : Int) | none => 1) := fun i => by
    cases e : fl[i]? with
    | none => exact (by decide : (0 : Int) < 1)
    | some b =>
      have p := psOk ol (List.mem_of_getElem? e)
      have hp := fold_pos p f (0, 1) Int.one_pos
      have : 0 < Nat.gcd (lawOver f (priceL fl) b).1.natAbs (lawOver f (priceL fl) b).2.natAbs := Nat.gcd_pos_of_pos_right _ (by
        have : 0 < (lawOver f (priceL fl) b).2 := hp
        omega)
      show 0 < ((Nat.gcd (lawOver f (priceL fl) b).1.natAbs (lawOver f (priceL fl) b).2.natAbs : Nat) : Int)
      omega
  have both : ∀ i : Nat, (pairF (overs f fl) i).1 = (pairF (rankF f fl) i).1 * (match fl[i]? with | some b => ((Nat.gcd (lawOver f (priceL fl) b).1.natAbs (lawOver f (priceL fl) b).2.natAbs : Nat) : Int) | none => 1) ∧
      (pairF (overs f fl) i).2 = (pairF (rankF f fl) i).2 * (match fl[i]? with | some b => ((Nat.gcd (lawOver f (priceL fl) b).1.natAbs (lawOver f (priceL fl) b).2.natAbs : Nat) : Int) | none => 1) := fun i => by
    unfold pairF overs rankF
    rw [List.getElem?_map, List.getElem?_map]
    cases e : fl[i]? with
    | none => exact ⟨rfl, rfl⟩
    | some b =>
      have mb := List.mem_of_getElem? e
      have s := same_score (psOk ol mb) (ol.2 b mb) of
      show (lawOver f (priceL fl) b).1 = (scoreOf f fl b).1 * _ ∧ (lawOver f (priceL fl) b).2 = (scoreOf f fl b).2 * _
      unfold scoreOf
      rw [← s]
      unfold red
      exact ⟨(Int.ediv_mul_cancel (Int.ofNat_dvd_left.mpr (Nat.gcd_dvd_left _ _))).symm, (Int.ediv_mul_cancel (Int.ofNat_dvd_left.mpr (Nat.gcd_dvd_right _ _))).symm⟩
  exact lead_scale gg (fun i => (both i).1) (fun i => (both i).2) i j
theorem nb_overs {f : List Tm} {fl : List Bid} (of : FormOk f) (ol : FieldOk fl) : ∀ p ∈ overs f fl, Nb 400 p.1 ∧ Nb 400 p.2 := fun p h => by
  obtain ⟨b, hb, rfl⟩ := List.mem_map.mp h
  exact nb_over (psOk ol hb) (ol.2 b hb) f of.2 of.1
def G_law_order (ds : List PyData) (d : PyData) : Prop := ∃ (f : List Tm) (fl : List Bid), FormOk f ∧ FieldOk fl ∧ ds = [formD f, .list (fl.map Bid.d)] ∧ d = .list (orderD f fl)
theorem ok_law_order (T : Txt K mg) : FnOk P w K mg base CX0 2 T.a_law_order T.d_law_order ["formula", "field"] (spP K G_law_order) := by
  refine pureOk T.F_law_order sc_law_order (by rintro _ _ ⟨f, fl, _, _, rfl, _⟩; rfl) fun cdv A outer s H E hr => ⟨_, (pss_cons (kasg (pe_tup (kpa (pe_lc (own := [("index", 4)]) (g := (gName 4)) (tt := tYes) (by rfl) sc_law_order.nd (krg1 T.n_range (kpa (kB (r := rLenQ K) call_len_seq T.n_len (kpa (kvc 1) pa_nil)) pa_nil)) (blkOk_by (by kernel_rfl)) (fun _ _ _ _ _ => (kgl 4 sc_law_order.nd)) (fun _ _ _ _ _ => pts_nil) (fun _ _ _ _ _ => (kcall (ok_law_over T) (hr.mono (by decide)) T.g__law_over T.k__law_over T.b__law_over (kpa (kvc 0) (kpa (kvc 1) (kpa (kvl 4) pa_nil)))))) (kpa (pe_lst pa_nil) pa_nil))) (kgt (n := 2) (by rfl) (kgs (kgc 2 sc_law_order.nd) (kgs (kgl 3 sc_law_order.nd) pgs_nil))))
      (pss_cons (ps_for PassesOwn.never rfl (krg1 T.n_range (kpa (kB (r := rLenQ K) call_len_seq T.n_len (kpa (kvc 1) pa_nil)) pa_nil)) (kgc 4 sc_law_order.nd) (pss_cons (ksl 5 sc_law_order.nd (kB (r := rLenQ K) call_len_seq T.n_len (kpa (pe_lc (own := [("other", 6)]) (g := (gName 6)) (by rfl) sc_law_order.nd (show PI _ _ _ (iList K _) from pi_list (kvl 3)) (blkOk_by (by kernel_rfl)) (fun _ _ _ _ _ => (kgl 6 sc_law_order.nd)) (fun _ _ _ _ _ => (pts_one (kval (kcall (ok_law_leads T) (hr.mono (by decide)) T.g__law_leads T.k__law_leads T.b__law_leads (kpa (kvc 1) (kpa (kvc 2) (kpa (kvl 6) (kpa (kvc 4) pa_nil)))))))) (fun _ _ _ _ _ => (kvl 6))) pa_nil)))
      (pss_one (ksl 3 sc_law_order.nd (pe_op (r := rCatD K) op_catD (pe_op (r := rCatD K) op_catD (pe_slice (r := rSlL K) sl_list (kvl 3) po_none (po_some (kvl 5))) (pe_lst (kpa (kvc 4) pa_nil))) (pe_slice (r := rSlL K) sl_list (kvl 3) (po_some (kvl 5)) po_none))))))
      (pss_one (ps_ret (kvl 3))))), ?_⟩
  rintro _ _ ⟨f, fl, of, ol, rfl, rfl⟩ ms σ H Q h k
  have h : At K W0 ms ⟨H, H⟩ [.dat (formD f), .dat (.list (fl.map Bid.d)), .emp, .emp, .emp, .emp, .emp] σ H := h
  have lf := ol.1
  have lr : (overs f fl).length = fl.length := List.length_map _
  have no := nb_overs of ol
  have el : ((fl.map Bid.d).length : Int).toNat = fl.length := by rw [List.length_map, Int.toNat_natCast]
  have rng : ∀ {W : Wd} {ρ : List Sl}, ρ[1]? = some (.dat (.list (fl.map Bid.d))) → Src K W (iRng1 (tCons (tCB (rLenQ K) (tCons (tVar 1) tNil)) tNil)) ρ ((List.range fl.length).map fun i => PyData.int (i : Nat)) := fun {W ρ} hr => by
    have sr := src_range (K := K) (W := W) (ρ := ρ) (ed_cons (ev_lenL (ds := fl.map Bid.d) (te := tVar 1) (evd_var hr)) ed_nil) (by rw [List.length_map]; omega) (by omega)
    rw [el] at sr
    exact sr
  have ovD : ((List.range fl.length).map fun i => (fl[i]?.map fun b => pairD (lawOver f (priceL fl) b)).getD .none) = (overs f fl).map pairD := by
    rw [range_map]
    unfold overs
    rw [List.map_map]
    rfl
  refine q_tgt h (ev_tup (ed_cons (evd_eq (ev_lc0 (xs := List.range fl.length) (enc := fun i => .int (i : Nat)) (f := fun i => (fl[i]?.map fun b => pairD (lawOver f (priceL fl) b)).getD .none) (rng rfl) (by rw [List.length_range]; omega) fun i hi => ?_) (congrArg PyData.list ovD)) (ed_cons (ev_lst ed_nil (by decide)) ed_nil)) (by show 2 ≤ 100000; decide))
    (tg_tup (tgs_cons tg_name (tgs_cons tg_name tgs_nil)) rfl) fun σ1 H1 h1 _ => ?_
  · have hi' : i < fl.length := List.mem_range.mp hi
    have eb : fl[i]? = some fl[i] := List.getElem?_eq_getElem hi'
    rw [eb]
    exact ev_call (ed_cons (evd_var rfl) (ed_cons (evd_var rfl) (ed_cons (evd_var rfl) ed_nil))) ⟨f, fl, i, fl[i], of, ol, eb, rfl, rfl⟩
  dsimp only [List.set] at h1
  have lo : ∀ i, (ordL (rankL f fl) i).length = i := fun i => by rw [(ordL_perm _ i).length_eq, List.length_range]
  refine q_for h1 (R := fun i => [.dat (formD f), .dat (.list (fl.map Bid.d)), .dat (.list ((overs f fl).map pairD)), .dat (.list ((ordL (rankL f fl) i).map fun (j : Nat) => .int (j : Int))), .emp, .emp, .emp])
    (S := fun i => [.dat (formD f), .dat (.list (fl.map Bid.d)), .dat (.list ((overs f fl).map pairD)), .dat (.list ((ordL (rankL f fl) i).map fun (j : Nat) => .int (j : Int))), .dat (.int (i : Nat)), .emp, .emp])
    (X := fun _ _ => True) (rng rfl) (Le.refl _) (fun _ _ _ => trivial) (fun i d hd => ⟨[4], ?_⟩) (fun Hb i d σ3 H3 hd h3 _ => ?_) (fun σ3 H3 h3 _ => ?_) (fun _ _ _ _ _ z => z)
  · rw [List.getElem?_map] at hd
    cases e : (List.range fl.length)[i]? with
    | none => rw [e] at hd; cases hd
    | some j =>
      rw [e] at hd
      obtain ⟨hl, e'⟩ := List.getElem?_eq_some_iff.mp e
      rw [List.getElem_range] at e'
      subst e'
      cases hd
      exact tg_name
  · have hi : i < fl.length := by
      have := (List.getElem?_eq_some_iff.mp hd).1
      rw [List.length_map, List.length_range] at this
      exact this
    have mem : ∀ x ∈ ordL (rankL f fl) i, x < fl.length := fun x hx => by
      have := List.mem_range.mp ((ordL_perm _ i).mem_iff.mp hx)
      omega
    have loi := lo i
    have la : ((ordL (rankL f fl) i).filter fun x => rankL f fl x i).length ≤ i := Nat.le_trans (List.length_filter_le _ _) (by omega)
    refine q_asg h3 (s := .dat (.int ((((ordL (rankL f fl) i).filter fun x => rankL f fl x i).length : Nat) : Int))) (evd_eq (ev_lenL (ev_lc1 (xs := ordL (rankL f fl) i) (enc := fun (j : Nat) => .int (j : Int)) (f := fun (j : Nat) => .int (j : Int)) (p := fun o => rankL f fl o i) (j := 6) (src_list (evd_var rfl)) (by omega) (fun x hx => ?_) (fun x _ _ => evd_var rfl))) (by rw [List.length_map])) fun σ4 H4 h4 x4 => ?_
    · exact et_eq (et_B (ev_call (ed_cons (evd_var rfl) (ed_cons (evd_var rfl) (ed_cons (evd_var rfl) (ed_cons (evd_var rfl) ed_nil)))) ⟨fl, overs f fl, x, i, ol, no, mem x hx, hi, lr, rfl, rfl⟩)) (law_same of ol x i)
    dsimp only [List.set] at h4
    refine s_asg h4 (s := .dat (.list ((ordL (rankL f fl) (i + 1)).map fun (j : Nat) => .int (j : Int)))) (evd_eq (ev_cat (ev_cat (ev_till (evd_var rfl) (evd_var rfl) (by rw [List.length_map]; omega)) (ev_lst (ed_cons (evd_var rfl) ed_nil) (by show 1 ≤ 100000; decide)) (by rw [List.length_take, List.length_map]; show _ + 1 ≤ _; omega)) (ev_from (evd_var rfl) (evd_var rfl) (by rw [List.length_map]; omega)) (by rw [List.length_append, List.length_take, List.length_drop, List.length_map]; show _ + 1 + _ ≤ _; omega)) ?_) fun σ5 H5 h5 _ => ⟨h5.le (.same (.same (.same (.same (.emp (.emp (.emp .nil))))))), trivial⟩
    rw [ordL_succ]
    unfold ins
    rw [List.map_append, List.map_append, List.map_take, List.map_drop]
    rfl
  · rw [List.length_map, List.length_range] at h3
    exact s_fin h3 (evd_var rfl) k
end
end Sc

/-! A bid whose price is lowered stays ahead of all that it was ahead of. No program in sight. -/
namespace Sc
structure LowP (m M s D m' M' s' D' p p' r : Int) : Prop where
  p0 : 0 < p'
  pp : p' < p
  r0 : 0 < r
  m0 : 0 < m
  n0 : 0 < m'
  mp : m ≤ p
  mr : m ≤ r
  pM : p ≤ M
  rM : r ≤ M
  mp' : m' ≤ p'
  mr' : m' ≤ r
  pM' : p' ≤ M'
  rM' : r ≤ M'
  mle : m' ≤ m
  mm : m' = m ∨ m' = p'
  Mle : M' ≤ M
  MM : M' = M ∨ M = p
  ss : s' = s - p + p'
  s0 : 0 ≤ s - p
  hD : (m = M ∧ D = 1) ∨ (m < M ∧ D = M - m)
  hD' : (m' = M' ∧ D' = 1) ∨ (m' < M' ∧ D' = M' - m')
section
variable {m M s D m' M' s' D' p p' r : Int}
theorem LowP.Dp (L : LowP m M s D m' M' s' D' p p' r) : 0 < D := by rcases L.hD with ⟨_, e⟩ | ⟨_, e⟩ <;> omega
theorem LowP.Dp' (L : LowP m M s D m' M' s' D' p p' r) : 0 < D' := by rcases L.hD' with ⟨_, e⟩ | ⟨_, e⟩ <;> omega
theorem LowP.low (L : LowP m M s D m' M' s' D' p p' r) : m * (r - p) * p' ≤ m' * (r - p') * p := by
  have h1 := L.pp; have h2 := L.p0; have h3 := L.r0; have h4 := L.m0; have h5 := L.mp; have h6 := L.mp'; have h7 := L.mr'
  rcases L.mm with e | e
  · subst e
    have k : 0 ≤ m' * r * (p - p') := Int.mul_nonneg (Int.mul_nonneg (by omega) (by omega)) (by omega)
    have e : m' * (r - p') * p = m' * (r - p) * p' + m' * r * (p - p') := by grind
    omega
  · have k : m * (r - p) ≤ (r - p') * p := by
      by_cases c : r ≤ p
      · have a : 0 ≤ m * (p - r) := Int.mul_nonneg (by omega) (by omega)
        have b : 0 ≤ (r - p') * p := Int.mul_nonneg (by omega) (by omega)
        have e : m * (r - p) = -(m * (p - r)) := by grind
        omega
      · have a : 0 ≤ (p - m) * (r - p) := Int.mul_nonneg (by omega) (by omega)
        have b : 0 ≤ (p - p') * p := Int.mul_nonneg (by omega) (by omega)
        have e : (r - p') * p = m * (r - p) + (p - m) * (r - p) + (p - p') * p := by grind
        omega
    have q := Int.mul_le_mul_of_nonneg_right k (Int.le_of_lt h2)
    have e2 : m' * (r - p') * p = (r - p') * p * p' := by rw [e]; grind
    omega
theorem LowP.mean (L : LowP m M s D m' M' s' D' p p' r) : s * (r - p) * p' ≤ s' * (r - p') * p := by
  have h1 := L.pp; have h2 := L.p0; have h3 := L.r0; have h4 := L.s0; have e := L.ss
  have a : 0 ≤ (s - p) * r * (p - p') := Int.mul_nonneg (Int.mul_nonneg h4 (by omega)) (by omega)
  have b : 0 ≤ p * p' * (p - p') := Int.mul_nonneg (Int.mul_nonneg (by omega) (by omega)) (by omega)
  have e2 : s' * (r - p') * p = s * (r - p) * p' + (s - p) * r * (p - p') + p * p' * (p - p') := by rw [e]; grind
  omega
theorem LowP.range (L : LowP m M s D m' M' s' D' p p' r) : (r - p) * D' ≤ (r - p') * D := by
  have h1 := L.pp; have h2 := L.p0; have dp := L.Dp; have dp' := L.Dp'
  have h3 := L.mp; have h4 := L.mr; have h5 := L.pM; have h6 := L.rM; have h7 := L.mp'; have h8 := L.mr'; have h9 := L.pM'; have h10 := L.rM'; have h11 := L.mle; have h12 := L.Mle
  by_cases c : r ≤ p
  · by_cases c2 : p' ≤ r
    · have a : 0 ≤ (p - r) * D' := Int.mul_nonneg (by omega) (by omega)
      have b : 0 ≤ (r - p') * D := Int.mul_nonneg (by omega) (by omega)
      have e : (r - p) * D' = -((p - r) * D') := by grind
      omega
    · have em : m' = m := by rcases L.mm with e | e <;> omega
      have eD : D = M - m := by rcases L.hD with ⟨e, _⟩ | ⟨_, e⟩ <;> omega
      have eD' : D' = M' - m := by rcases L.hD' with ⟨e, _⟩ | ⟨_, e⟩ <;> omega
      rcases L.MM with e | e
      · have a : 0 ≤ (p - p') * (M - m) := Int.mul_nonneg (by omega) (by omega)
        have e2 : (r - p') * D = (r - p) * D' + (p - p') * (M - m) := by rw [eD, eD', e]; grind
        omega
      · have a : 0 ≤ (p - p') * (r - m) := Int.mul_nonneg (by omega) (by omega)
        have b : 0 ≤ (p - r) * (M' - p') := Int.mul_nonneg (by omega) (by omega)
        have e2 : (r - p') * D = (r - p) * D' + (p - p') * (r - m) + (p - r) * (M' - p') := by rw [eD, eD', e]; grind
        omega
  · have eM : M' = M := by rcases L.MM with e | e <;> omega
    have eD : D = M - m := by rcases L.hD with ⟨e, _⟩ | ⟨_, e⟩ <;> omega
    have eD' : D' = M - m' := by rcases L.hD' with ⟨e, _⟩ | ⟨_, e⟩ <;> omega
    rcases L.mm with e | e
    · have a : 0 ≤ (p - p') * (M - m) := Int.mul_nonneg (by omega) (by omega)
      have e2 : (r - p') * D = (r - p) * D' + (p - p') * (M - m) := by rw [eD, eD', e]; grind
      omega
    · have a : 0 ≤ (m - p') * (M - r) := Int.mul_nonneg (by omega) (by omega)
      have b : 0 ≤ (p - m) * (M - p') := Int.mul_nonneg (by omega) (by omega)
      have e2 : (r - p') * D = (r - p) * D' + (m - p') * (M - r) + (p - m) * (M - p') := by rw [eD, eD', e]; grind
      omega
end
/-! ### one term, all terms -/
def Dl (f : List Tm) (ps : List Int) (a b : Bid) : Int := NN f ps a * CC ps b - NN f ps b * CC ps a
theorem Dl_cons (t : Tm) (f : List Tm) (ps : List Int) (a b : Bid) : Dl (t :: f) ps a b = (num ps a t * CC ps b - num ps b t * CC ps a) + Dl f ps a b := by
  unfold Dl NN
  rw [List.map_cons, List.sum_cons, List.map_cons, List.sum_cons]
  grind
structure LowB (ps ps' : List Int) (a a' b : Bid) : Prop where
  L : LowP (minL ps) (maxL ps) ps.sum (DD ps) (minL ps') (maxL ps') ps'.sum (DD ps') a.price a'.price b.price
  mks : a'.marks = a.marks
  len : ps'.length = ps.length
  n0 : 0 < ps.length
theorem rng_diff {ps : List Int} {a b : Bid} (h1 : minL ps ≤ a.price) (h2 : minL ps ≤ b.price) (h3 : a.price ≤ maxL ps) (h4 : b.price ≤ maxL ps) : rng ps a * CC ps b - rng ps b * CC ps a = a.price * b.price * (ps.length : Int) * (ps.length : Int) * DD ps * (b.price - a.price) := by
  unfold rng
  by_cases c : minL ps = maxL ps
  · rw [if_pos c, if_pos c]
    have e : a.price = b.price := by omega
    have e1 : b.price - a.price = 0 := by omega
    rw [e1, Int.mul_zero]
    grind
  · rw [if_neg c, if_neg c]
    unfold CC
    grind
theorem term_le {ps ps' : List Int} {a a' b : Bid} (B : LowB ps ps' a a' b) {t : Tm} (ot : t.Ok) : (num ps a t * CC ps b - num ps b t * CC ps a) * (CC ps' a' * CC ps' b) ≤ (num ps' a' t * CC ps' b - num ps' b t * CC ps' a') * (CC ps a * CC ps b) := by
  have L := B.L
  have dp := L.Dp; have dp' := L.Dp'; have r0 := L.r0; have p0 := L.p0; have pp := L.pp; have m0 := L.m0
  have hn := B.n0
  have N : (0 : Int) < (ps.length : Int) := by omega
  have P0 : 0 < a.price := by omega
  cases t with
  | mark k x =>
    simp only [num, B.mks]
    refine Int.le_of_eq ?_
    grind
  | rel q x =>
    have x0 : 0 ≤ x := by have := ot.1; omega
    cases q with
    | low =>
      simp only [num, CC, B.len]
      generalize (ps.length : Int) = n at *
      have e1 : (x * (minL ps * n * DD ps) * (b.price * n * DD ps) - x * (minL ps * n * DD ps) * (a.price * n * DD ps)) * (a'.price * n * DD ps' * (b.price * n * DD ps')) = x * (n * n * (n * n)) * (DD ps * DD ps) * (DD ps' * DD ps') * b.price * (minL ps * (b.price - a.price) * a'.price) := by grind
      have e2 : (x * (minL ps' * n * DD ps') * (b.price * n * DD ps') - x * (minL ps' * n * DD ps') * (a'.price * n * DD ps')) * (a.price * n * DD ps * (b.price * n * DD ps)) = x * (n * n * (n * n)) * (DD ps * DD ps) * (DD ps' * DD ps') * b.price * (minL ps' * (b.price - a'.price) * a.price) := by grind
      rw [e1, e2]
      refine Int.mul_le_mul_of_nonneg_left L.low ?_
      have hnn : 0 ≤ n * n := Int.le_of_lt (Int.mul_pos N N)
      exact Int.mul_nonneg (Int.mul_nonneg (Int.mul_nonneg (Int.mul_nonneg x0 (Int.mul_nonneg hnn hnn)) (Int.le_of_lt (Int.mul_pos dp dp))) (Int.le_of_lt (Int.mul_pos dp' dp'))) (by omega)
    | range =>
      have d1 := rng_diff L.mp L.mr L.pM L.rM
      have d2 := rng_diff L.mp' L.mr' L.pM' L.rM'
      simp only [num]
      rw [B.len] at d2
      have f1 : x * rng ps a * CC ps b - x * rng ps b * CC ps a = x * (rng ps a * CC ps b - rng ps b * CC ps a) := by grind
      have f2 : x * rng ps' a' * CC ps' b - x * rng ps' b * CC ps' a' = x * (rng ps' a' * CC ps' b - rng ps' b * CC ps' a') := by grind
      rw [f1, f2, d1, d2]
      simp only [CC, B.len]
      generalize (ps.length : Int) = n at *
      have e1 : x * (a.price * b.price * n * n * DD ps * (b.price - a.price)) * (a'.price * n * DD ps' * (b.price * n * DD ps')) = x * (n * n * (n * n)) * (DD ps * DD ps') * (a.price * a'.price) * (b.price * b.price) * ((b.price - a.price) * DD ps') := by grind
      have e2 : x * (a'.price * b.price * n * n * DD ps' * (b.price - a'.price)) * (a.price * n * DD ps * (b.price * n * DD ps)) = x * (n * n * (n * n)) * (DD ps * DD ps') * (a.price * a'.price) * (b.price * b.price) * ((b.price - a'.price) * DD ps) := by grind
      rw [e1, e2]
      refine Int.mul_le_mul_of_nonneg_left L.range ?_
      have hnn : 0 ≤ n * n := Int.le_of_lt (Int.mul_pos N N)
      exact Int.mul_nonneg (Int.mul_nonneg (Int.mul_nonneg (Int.mul_nonneg x0 (Int.mul_nonneg hnn hnn)) (Int.le_of_lt (Int.mul_pos dp dp'))) (Int.le_of_lt (Int.mul_pos P0 p0))) (Int.le_of_lt (Int.mul_pos r0 r0))
    | mean =>
      simp only [num, CC, B.len]
      generalize (ps.length : Int) = n at *
      have e1 : (x * (ps.sum * DD ps) * (b.price * n * DD ps) - x * (ps.sum * DD ps) * (a.price * n * DD ps)) * (a'.price * n * DD ps' * (b.price * n * DD ps')) = x * (n * n * n) * (DD ps * DD ps) * (DD ps' * DD ps') * b.price * (ps.sum * (b.price - a.price) * a'.price) := by grind
      have e2 : (x * (ps'.sum * DD ps') * (b.price * n * DD ps') - x * (ps'.sum * DD ps') * (a'.price * n * DD ps')) * (a.price * n * DD ps * (b.price * n * DD ps)) = x * (n * n * n) * (DD ps * DD ps) * (DD ps' * DD ps') * b.price * (ps'.sum * (b.price - a'.price) * a.price) := by grind
      rw [e1, e2]
      refine Int.mul_le_mul_of_nonneg_left L.mean ?_
      have hnn : 0 ≤ n * n := Int.le_of_lt (Int.mul_pos N N)
      exact Int.mul_nonneg (Int.mul_nonneg (Int.mul_nonneg (Int.mul_nonneg x0 (Int.mul_nonneg hnn (by omega))) (Int.le_of_lt (Int.mul_pos dp dp))) (Int.le_of_lt (Int.mul_pos dp' dp'))) (by omega)
theorem all_le {ps ps' : List Int} {a a' b : Bid} (B : LowB ps ps' a a' b) : ∀ {f : List Tm}, (∀ t ∈ f, t.Ok) → Dl f ps a b * (CC ps' a' * CC ps' b) ≤ Dl f ps' a' b * (CC ps a * CC ps b)
  | [], _ => by simp [Dl, NN]
  | t :: f, h => by
    rw [Dl_cons, Dl_cons, Int.add_mul, Int.add_mul]
    exact Int.add_le_add (term_le B (h t List.mem_cons_self)) (all_le B fun x hx => h x (List.mem_cons_of_mem _ hx))
end Sc

/-! k70, 4: lowered prices in a field. -/
namespace Sc
theorem cross_iff {o u N C o2 u2 N2 C2 : Int} (hu : 0 < u) (hu2 : 0 < u2) (hC : 0 < C) (hC2 : 0 < C2) (h : o * C = N * u) (h2 : o2 * C2 = N2 * u2) : (o2 * u < o * u2 ↔ 0 < N * C2 - N2 * C) ∧ (o * u2 = o2 * u ↔ N * C2 - N2 * C = 0) := by
  have cc : 0 < C * C2 := Int.mul_pos hC hC2
  have uu : 0 < u * u2 := Int.mul_pos hu hu2
  have e1 : o2 * u * (C * C2) = N2 * C * (u * u2) := by grind
  have e2 : o * u2 * (C * C2) = N * C2 * (u * u2) := by grind
  have l : o2 * u < o * u2 ↔ N2 * C < N * C2 := by
    refine ⟨fun z => ?_, fun z => ?_⟩
    · have := Int.mul_lt_mul_of_pos_right z cc
      rw [e1, e2] at this
      exact Int.lt_of_mul_lt_mul_right this (Int.le_of_lt uu)
    · have := Int.mul_lt_mul_of_pos_right z uu
      rw [← e1, ← e2] at this
      exact Int.lt_of_mul_lt_mul_right this (Int.le_of_lt cc)
  have m : o * u2 = o2 * u ↔ N * C2 = N2 * C := by
    refine ⟨fun z => ?_, fun z => ?_⟩
    · have : o * u2 * (C * C2) = o2 * u * (C * C2) := by rw [z]
      rw [e1, e2] at this
      exact Int.eq_of_mul_eq_mul_right (Int.ne_of_gt uu) this
    · have : N * C2 * (u * u2) = N2 * C * (u * u2) := by rw [z]
      rw [← e1, ← e2] at this
      exact Int.eq_of_mul_eq_mul_right (Int.ne_of_gt cc) this
  exact ⟨l.trans (by omega), m.trans (by omega)⟩
theorem rank_iff {f : List Tm} {fl : List Bid} (of : FormOk f) (ol : FieldOk fl) {i j : Nat} {a b : Bid} (hi : fl[i]? = some a) (hj : fl[j]? = some b) :
    rankL f fl i j = true ↔ 0 < Dl f (priceL fl) a b ∨ (Dl f (priceL fl) a b = 0 ∧ (a.price < b.price ∨ (a.price = b.price ∧ i < j))) := by
  have pa := psOk ol (List.mem_of_getElem? hi)
  have pb := psOk ol (List.mem_of_getElem? hj)
  have ei : pairF (overs f fl) i = lawOver f (priceL fl) a := by unfold pairF overs; rw [List.getElem?_map, hi]; rfl
  have ej : pairF (overs f fl) j = lawOver f (priceL fl) b := by unfold pairF overs; rw [List.getElem?_map, hj]; rfl
  have qi : priceF fl i = a.price := by unfold priceF; rw [hi]; rfl
  have qj : priceF fl j = b.price := by unfold priceF; rw [hj]; rfl
  have c := cross_iff (fold_pos pa f (0, 1) Int.one_pos) (fold_pos pb f (0, 1) Int.one_pos) (CC_pos pa) (CC_pos pb) (lawOver_eq f (priceL fl) a) (lawOver_eq f (priceL fl) b)
  rw [← law_same of ol, show leadF (overs f fl) fl i j = lead (pairF (overs f fl)) (priceF fl) i j from rfl, lead_iff, ei, ej, qi, qj]
  exact or_congr c.1 (and_congr c.2 Iff.rfl)
theorem sum_set : ∀ {l : List Int} {i : Nat} {x p : Int}, l[i]? = some p → (l.set i x).sum = l.sum - p + x
  | y :: l, 0, x, p, h => by
    cases h
    simp only [List.set_cons_zero, List.sum_cons]
    omega
  | y :: l, i + 1, x, p, h => by
    have ih := sum_set (l := l) (x := x) (by simpa using h)
    simp only [List.set_cons_succ, List.sum_cons]
    omega
theorem sum_ge : ∀ {l : List Int} {p : Int}, (∀ z ∈ l, 0 ≤ z) → p ∈ l → p ≤ l.sum
  | y :: l, p, h, m => by
    have s0 : ∀ {l : List Int}, (∀ z ∈ l, 0 ≤ z) → 0 ≤ l.sum := fun {l} => by
      induction l with
      | nil => intro _; simp
      | cons z l ih =>
        intro h
        have := ih fun x hx => h x (List.mem_cons_of_mem _ hx)
        have := h z List.mem_cons_self
        rw [List.sum_cons]
        omega
    rw [List.sum_cons]
    rcases List.mem_cons.mp m with e | e
    · have := s0 fun x hx => h x (List.mem_cons_of_mem _ hx)
      omega
    · have := sum_ge (fun x hx => h x (List.mem_cons_of_mem _ hx)) e
      have := h y List.mem_cons_self
      omega
/-- THE HEART -/
theorem heart {f : List Tm} {fl : List Bid} (of : FormOk f) (ol : FieldOk fl) {i : Nat} {a : Bid} (hi : fl[i]? = some a) {p : Int} (h0 : 0 < p) (h1 : p < a.price) :
    FieldOk (fl.set i ⟨p, a.marks⟩) ∧ ∀ j, j < fl.length → rankL f fl i j = true → rankL f (fl.set i ⟨p, a.marks⟩) i j = true := by
  obtain ⟨hil, _⟩ := List.getElem?_eq_some_iff.mp hi
  have oa := ol.2 a (List.mem_of_getElem? hi)
  have ol2 : FieldOk (fl.set i ⟨p, a.marks⟩) := by
    refine ⟨by rw [List.length_set]; exact ol.1, fun c hc => ?_⟩
    rcases List.mem_or_eq_of_mem_set hc with q | q
    · exact ol.2 c q
    · rw [q]
      exact ⟨by show 1 ≤ p; omega, by have := oa.hi; show p ≤ 1000000000; omega, oa.len, oa.mkb⟩
  refine ⟨ol2, fun j hj r => ?_⟩
  have nij : i ≠ j := fun z => by
    rw [z, (rank_ord ol).irr] at r
    cases r
  have hjb : fl[j]? = some fl[j] := List.getElem?_eq_getElem hj
  have hi2 : (fl.set i ⟨p, a.marks⟩)[i]? = some ⟨p, a.marks⟩ := by rw [List.getElem?_set_self hil]
  have hj2 : (fl.set i ⟨p, a.marks⟩)[j]? = some fl[j] := by rw [List.getElem?_set_ne nij, hjb]
  have pa := psOk ol (List.mem_of_getElem? hi)
  have pb := psOk ol (List.mem_of_getElem? hjb)
  have pa2 := psOk ol2 (List.mem_of_getElem? hi2)
  have pb2 := psOk ol2 (List.mem_of_getElem? hj2)
  have eps : priceL (fl.set i ⟨p, a.marks⟩) = (priceL fl).set i p := by unfold priceL; rw [List.map_set]
  have epi : (priceL fl)[i]? = some a.price := by unfold priceL; rw [List.getElem?_map, hi]; rfl
  have new : ∀ z ∈ priceL (fl.set i ⟨p, a.marks⟩), z = p ∨ z ∈ priceL fl := fun z hz => by
    rw [eps] at hz
    exact (List.mem_or_eq_of_mem_set hz).symm
  have old : ∀ z ∈ priceL fl, z = a.price ∨ z ∈ priceL (fl.set i ⟨p, a.marks⟩) := fun z hz => by
    obtain ⟨k, hk⟩ := List.mem_iff_getElem?.mp hz
    by_cases e : i = k
    · subst e
      rw [epi] at hk
      cases hk
      exact .inl rfl
    · refine .inr ?_
      rw [eps]
      exact List.mem_of_getElem? (i := k) (by rw [List.getElem?_set_ne e]; exact hk)
  have q1 := pa.min; have q2 := pa.max; have q3 := pb.min; have q4 := pb.max; have q5 := pa2.min; have q6 := pa2.max; have q7 := pb2.min; have q8 := pb2.max
  have w1 := new _ (minL_mem pa2.ne); have w2 := new _ (maxL_mem pa2.ne); have w3 := old _ (minL_mem pa.ne); have w4 := old _ (maxL_mem pa.ne)
  have mle : ∀ z ∈ priceL (fl.set i ⟨p, a.marks⟩), minL (priceL (fl.set i ⟨p, a.marks⟩)) ≤ z ∧ z ≤ maxL (priceL (fl.set i ⟨p, a.marks⟩)) := fun z hz => ⟨minL_le hz, maxL_le hz⟩
  have mlo : ∀ z ∈ priceL fl, minL (priceL fl) ≤ z ∧ z ≤ maxL (priceL fl) := fun z hz => ⟨minL_le hz, maxL_le hz⟩
  have pp : (⟨p, a.marks⟩ : Bid).price = p := rfl
  rw [pp] at q5 q6
  have g1 : minL (priceL (fl.set i ⟨p, a.marks⟩)) ≤ minL (priceL fl) := by
    rcases w3 with e | e
    · omega
    · exact (mle _ e).1
  have g2 : maxL (priceL (fl.set i ⟨p, a.marks⟩)) ≤ maxL (priceL fl) := by
    rcases w2 with e | e
    · omega
    · exact (mlo _ e).2
  have B : LowB (priceL fl) (priceL (fl.set i ⟨p, a.marks⟩)) a ⟨p, a.marks⟩ fl[j] := by
    refine ⟨⟨h0, h1, by omega, by omega, by omega, q1.2, q3.2, q2.1, q4.1, q5.2, q7.2, q6.1, q8.1, g1, ?_, g2, ?_, ?_, ?_, ?_, ?_⟩, rfl, by rw [eps, List.length_set], pa.n0⟩
    · rcases w1 with e | e
      · exact .inr e
      · have := (mlo _ e).1
        omega
    · rcases w4 with e | e
      · exact .inr e
      · have := (mle _ e).2
        omega
    · rw [eps]
      exact sum_set epi
    · have := sum_ge (l := priceL fl) (fun z hz => by have := (pa.bd z hz).1; omega) (List.mem_of_getElem? epi)
      omega
    · unfold DD
      split
      · exact .inl ⟨by assumption, rfl⟩
      · exact .inr ⟨by omega, rfl⟩
    · unfold DD
      split
      · exact .inl ⟨by assumption, rfl⟩
      · exact .inr ⟨by omega, rfl⟩
  have A := all_le B of.2
  have c1 : 0 < CC (priceL fl) a * CC (priceL fl) fl[j] := Int.mul_pos (CC_pos pa) (CC_pos pb)
  have c2 : 0 < CC (priceL (fl.set i ⟨p, a.marks⟩)) ⟨p, a.marks⟩ * CC (priceL (fl.set i ⟨p, a.marks⟩)) fl[j] := Int.mul_pos (CC_pos pa2) (CC_pos pb2)
  refine (rank_iff of ol2 hi2 hj2).mpr ?_
  rcases (rank_iff of ol hi hjb).mp r with z | ⟨z, y⟩
  · have z2 := Int.mul_pos z c2
    refine .inl (Int.lt_of_mul_lt_mul_right (a := CC (priceL fl) a * CC (priceL fl) fl[j]) ?_ (Int.le_of_lt c1))
    rw [Int.zero_mul]
    omega
  · rw [z, Int.zero_mul] at A
    have n : 0 ≤ Dl f (priceL (fl.set i ⟨p, a.marks⟩)) ⟨p, a.marks⟩ fl[j] := Int.le_of_mul_le_mul_right (by rw [Int.zero_mul]; exact A) c1
    rw [pp]
    omega
end Sc

/-! k70, 5: the law. -/
namespace Sc
open PySem L2 Fw
open PyProof.Rows (envOfC)
section
variable {P : Program} {w : World} {K : PySem.W.Frag} {mg : Str → Option Value}
theorem order_len (f : List Tm) (fl : List Bid) : (ordL (rankL f fl) fl.length).length = fl.length := by rw [(ordL_perm _ _).length_eq, List.length_range]
theorem orderD_len (f : List Tm) (fl : List Bid) : (orderD f fl).length = fl.length := by unfold orderD; rw [List.length_map, order_len]
theorem say_order {f : List Tm} {fl : List Bid} (ol : FieldOk fl) : Say 10000 1 (.list (orderD f fl)) := (say_list (B := 62) (n := 0) (m := 130) (fun d hd => by
  unfold orderD at hd
  obtain ⟨i, hi, rfl⟩ := List.mem_map.mp hd
  have h1 := List.mem_range.mp ((ordL_perm _ _).mem_iff.mp hi)
  have h2 := ol.1
  have h3 : ((i : Nat) : Int).natAbs < 2 ^ 200 := by
    rw [Int.natAbs_natCast]
    exact Nat.lt_of_lt_of_le (show i < 2 ^ 8 by omega) (Nat.pow_le_pow_right (by decide) (by decide))
  exact say_int h3) (by rw [orderD_len]; exact ol.1)).mono (by decide) (by decide)
theorem pos_ex {L : Nat → Nat → Bool} (O : Ord L) {n j : Nat} (hj : j < n) : ∃ k, (ordL L n)[k]? = some j ∧ k < n ∧ ∀ m, m < k → (ordL L n)[m]? ≠ some j := by
  have mj : j ∈ ordL L n := (ordL_perm L n).mem_iff.mpr (List.mem_range.mpr hj)
  obtain ⟨k, hk⟩ := List.mem_iff_getElem?.mp mj
  refine ⟨k, hk, ?_, fun m hm e => ?_⟩
  · have := (List.getElem?_eq_some_iff.mp hk).1
    rw [(ordL_perm L n).length_eq, List.length_range] at this
    exact this
  · have := (place_lt O (ordL_sorted O n) e hk).mp hm
    rw [O.irr] at this
    cases this
theorem ev_pos {W : Wd} {ρ : List Sl} {ta tb : TE} {f : List Tm} {fl : List Bid} {j k : Nat} (ha : Evd K W ta ρ (.list (orderD f fl))) (hb : Evd K W tb ρ (.int (j : Int))) (hk : (ordL (rankL f fl) fl.length)[k]? = some j) (hn : ∀ m, m < k → (ordL (rankL f fl) fl.length)[m]? ≠ some j) :
    Evd K W (tBM K "list" (rIndex K) ta (tCons tb tNil)) ρ (.int (k : Int)) := by
  refine ev_place (ns := (ordL (rankL f fl) fl.length).map fun (i : Nat) => (i : Int)) (evd_eq ha (by rw [List.map_map]; rfl)) hb (by rw [List.getElem?_map, hk]; rfl) fun m hm e => ?_
  rw [List.getElem?_map] at e
  cases q : (ordL (rankL f fl) fl.length)[m]? with
  | none => rw [q] at e; cases e
  | some z =>
    rw [q] at e
    have e2 : ((z : Nat) : Int) = (j : Int) := Option.some.inj e
    exact hn m hm (by rw [q]; congr 1; omega)
theorem shp_field (fl : List Bid) : Shp 3 (.list (fl.map Bid.d)) := shp_list fun d hd => by
  obtain ⟨b, _, rfl⟩ := List.mem_map.mp hd
  exact shp_bid b
theorem hu64 {k : Nat} {A : Around} (r : Room k A) : A.units + 64 < cLine := by
  have := r.un
  omega
theorem q_begun {B : Bs} {H : Hp} {ρ : List Sl} {σ : L2.St} {D : Ends} {tz : TS} {i j : Nat} {ns : List Int} {E : XK} (h : At K W0 [] B ρ σ H) (hr : ρ[i]? = some (.dat (.list (ns.map .int)))) (hl : ns.length ≤ 63)
    (k : ∀ (A : DrawA) σ' H', At K (DW K A) [A.d, A.l] ⟨H', H'⟩ (ρ.set j (.raw (.ref A.d))) σ' H' → tz D σ' H') : tSeq (tAsg (tCall (spBg K) [] E (tCons (tVar i) tNil)) (gName j)) tz D σ H := by
  obtain ⟨v, ev, ov⟩ := h.env.get hr (by intro q; cases q)
  refine ⟨_, ev, ?_⟩
  refine ⟨[], ns, h.live, .cons ov .nil, hl, fun A H1 a1 d0 l0 p1 c1 => ?_⟩
  refine k A _ H1 ?_
  have dl : (cut [A.l] H) A.d = none := by
    rw [cut_out (by simpa using A.ne)]
    exact d0
  have m : Same (cut [] H) (cut [A.d, A.l] H1) := ((cut_new l0).trans (cut_new d0)).trans a1.st
  have b1 : At K (DW K A) [A.d, A.l] ⟨H1, H1⟩ ρ σ H1 := ⟨fun _ z => z, a1.live, h.env.mono m, p1, .refl H1, Same.refl _, c1⟩
  exact b1.set (s := .raw (.ref A.d)) rfl j
theorem law_ok (T : Txt K mg) : LawAt P w K mg "law" slaw T.alaw T.dlaw 10 63 "script" := by
  refine ⟨T.Flaw, nlaw, sclaw, fun base cdv s H _ hr => ?_⟩
  have hg : (callerA.deeper (envOfC "law" (defScope slaw) s.heap.objs.size T.alaw cdv)).guards = some [] := rfl
  refine ⟨_, (pss_cons (ksl 1 sclaw.nd (kcall (ok_law_begun T) (hr.mono (by decide)) T.g__law_begun T.k__law_begun T.b__law_begun (kpa (kvl 0) pa_nil)))
      (pss_cons (ps_for PassesOwn.never rfl (krg1 T.n_range (kpa (pe_op op_add pe_int (kB (call_min2 rfl) T.n_min (kpa (kB (r := rLenQ K) call_len_seq T.n_len (kpa (kvl 0) pa_nil)) (kpa pe_int pa_nil)))) pa_nil)) (kgl 2 sclaw.nd) (pss_cons (kpar (i := 3) (j := 4) (by rfl) sclaw.nd (by decide) (kpa (kcall (ok_law_formula T) (hr.mono (by decide)) T.g__law_formula T.k__law_formula T.b__law_formula (kpa (kvl 1) pa_nil)) (kpa (pe_ifExp (pt_cmpR op_eq (kcall (ok_law_take T) (hr.mono (by decide)) T.g__law_take T.k__law_take T.b__law_take (kpa (kvl 1) (kpa pe_int pa_nil))) pe_int (nomark _)) pe_int (kcall (ok_law_take T) (hr.mono (by decide)) T.g__law_take T.k__law_take T.b__law_take (kpa (kvl 1) (kpa pe_int pa_nil)))) pa_nil)))
      (pss_cons (ksl 5 sclaw.nd (kcall (ok_law_field T) (hr.mono (by decide)) T.g__law_field T.k__law_field T.b__law_field (kpa (kvl 1) (kpa (kvl 4) pa_nil))))
      (pss_cons (kpar (i := 6) (j := 7) (by rfl) sclaw.nd (by decide) (kpa (kcall (ok_law_order T) (hr.mono (by decide)) T.g__law_order T.k__law_order T.b__law_order (kpa (kvl 3) (kpa (kvl 5) pa_nil))) (kpa (kTy (r := rLstOf K) call_list_of T.n_list (kpa (kvl 5) pa_nil)) pa_nil)))
      (pss_cons (ksl 8 sclaw.nd (kcall (okranking T) (hr.mono (by decide)) T.g_ranking T.k_ranking T.b_ranking (kpa (kvl 3) (kpa (kvl 7) pa_nil))))
      (pss_cons (ps_if (PW.pt (pw_or (pt_cmpR op_ne (kB (r := rReprD K) (cr_reprD hg (hu64 hr)) T.n_repr (kpa (kvl 8) pa_nil)) (kB (r := rReprD K) (cr_reprD hg (hu64 hr)) T.n_repr (kpa (kvl 6) pa_nil)) (nomark _)) (pw_or (pt_cmpR (r := rNeD K) (op_neD hr.units) (kvl 7) (kvl 5) (nomark _)) (pw_or1 (pt_cmpR (r := rNeD K) (op_neD hr.units) (pe_fnK (okranking T) (hr.mono (by decide)) rfl T.g_ranking T.k_ranking T.bk_ranking_field_formula (pk_cons (kTy (r := rTupOf K) call_tuple_of T.n_tuple (kpa (kvl 5) pa_nil)) (pk_cons (kvl 3) pk_nil))) (kvl 6) (nomark _)))))) (pss_one (ps_ret pe_bl)) pss_nil)
      (pss_cons (kexpr (show PE _ _ (tBM0 K "list" _ _) from kmeth0 (m := "") PySem.F.plainAttrs_list PySem.F.slot_list_reverse PySem.F.type_list_reverse mt_reverse (kvl 8)))
      (pss_cons (kexpr (show PE _ _ (tBM K "list" _ _ _) from kmeth PySem.F.plainAttrs_list PySem.F.slot_list_append PySem.F.type_list_append mt_append (kvl 8) (kpa pe_non pa_nil)))
      (pss_cons (ps_if (pt_cmpR op_ne (kB (r := rReprD K) (cr_reprD hg (hu64 hr)) T.n_repr (kpa (kcall (okranking T) (hr.mono (by decide)) T.g_ranking T.k_ranking T.b_ranking (kpa (kvl 3) (kpa (kvl 7) pa_nil))) pa_nil)) (kB (r := rReprD K) (cr_reprD hg (hu64 hr)) T.n_repr (kpa (kvl 6) pa_nil)) (nomark _)) (pss_one (ps_ret pe_bl)) pss_nil)
      (pss_cons (ps_if (pt_cmpR op_lt (kvl 4) pe_int (nomark _)) (pss_one ps_continue) pss_nil)
      (pss_cons (ps_for PassesOwn.never rfl (krg1 T.n_range (kpa pe_int pa_nil)) (kgl 9 sclaw.nd) (pss_cons (kpar (i := 10) (j := 11) (by rfl) sclaw.nd (by decide) (kpa (pe_ix (r := rIxL K) ix_list (kvl 6) (kcall (ok_law_take T) (hr.mono (by decide)) T.g__law_take T.k__law_take T.b__law_take (kpa (kvl 1) (kpa (kvl 4) pa_nil))) (fun _ _ => rfl)) (kpa (pe_ix (r := rIxL K) ix_list (kvl 6) (kcall (ok_law_take T) (hr.mono (by decide)) T.g__law_take T.k__law_take T.b__law_take (kpa (kvl 1) (kpa (kvl 4) pa_nil))) (fun _ _ => rfl)) pa_nil)))
      (pss_one (ps_if (PW.pt (pw_and (pt_cmpR op_ne (kvl 10) (kvl 11) (nomark _)) (pw_and1 (pt_cmpR op_ne (kB (r := rReprB) cr_reprB T.n_repr (kpa (kcall (okahead T) (hr.mono (by decide)) T.g_ahead T.k_ahead T.b_ahead (kpa (kvl 3) (kpa (kvl 7) (kpa (kvl 10) (kpa (kvl 11) pa_nil))))) pa_nil)) (kB (r := rReprB) cr_reprB T.n_repr (kpa (pe_cmpR op_lt (show PE _ _ (tBM K "list" _ _ _) from kmeth (r := rIndex K) PySem.F.plainAttrs_list PySem.F.slot_list_index PySem.F.type_list_index mt_index (kvl 6) (kpa (kvl 10) pa_nil)) (show PE _ _ (tBM K "list" _ _ _) from kmeth (r := rIndex K) PySem.F.plainAttrs_list PySem.F.slot_list_index PySem.F.type_list_index mt_index (kvl 6) (kpa (kvl 11) pa_nil)) (nomark _)) pa_nil)) (nomark _))))) (pss_one (ps_ret pe_bl)) pss_nil))))
      (pss_cons (ps_if (pt_cmpR op_notBl (pe_fnK (okahead T) (hr.mono (by decide)) rfl T.g_ahead T.k_ahead T.bk_ahead_second_first_field_formula (pk_cons (pe_ix (r := rIxL K) ix_list (kvl 6) pe_int (fun _ _ => rfl)) (pk_cons (pe_ix (r := rIxL K) ix_list (kvl 6) (pe_un un_neg pe_int) (fun _ _ => rfl)) (pk_cons (kvl 7) (pk_cons (kvl 3) pk_nil))))) pe_bl (nomark _)) (pss_one (ps_ret pe_bl)) pss_nil)
      (pss_cons (ksc 12 sclaw.nd (kcall (ok_law_take T) (hr.mono (by decide)) T.g__law_take T.k__law_take T.b__law_take (kpa (kvl 1) (kpa (kvl 4) pa_nil))))
      (pss_cons (kasg (pe_ix (r := rIxL K) ix_list (kvl 5) (kvc 12) (fun _ _ => rfl)) (kgt (n := 3) (by rfl) (kgs (kgl 13 sclaw.nd) (kgs (kgl 14 sclaw.nd) (kgs (kgl 15 sclaw.nd) pgs_nil)))))
      (pss_cons (ksl 16 sclaw.nd (kcall (ok_law_pick T) (hr.mono (by decide)) T.g__law_pick T.k__law_pick T.b__law_pick (kpa (kvl 1) (kpa (pe_lst (kpa pe_int (kpa (pe_op op_sub (kvl 14) pe_int) (kpa (pe_op op_fdivW (kvl 14) pe_int) (kpa (pe_op op_add pe_int (kcall (ok_law_take T) (hr.mono (by decide)) T.g__law_take T.k__law_take T.b__law_take (kpa (kvl 1) (kpa (kvl 14) pa_nil)))) pa_nil))))) pa_nil))))
      (pss_one (ps_if (pt_chain op_lt op_lt pe_int (kvl 16) (kvl 14)) (pss_cons (ksl 17 sclaw.nd (pe_op (r := rCatD K) op_catD (pe_op (r := rCatD K) op_catD (pe_slice (r := rSlL K) sl_list (kvl 5) po_none (po_some (kvc 12))) (pe_lst (kpa (pe_tup (kpa (kvl 13) (kpa (kvl 16) (kpa (kvl 15) pa_nil)))) pa_nil))) (pe_slice (r := rSlL K) sl_list (kvl 5) (po_some (pe_op op_add (kvc 12) pe_int)) po_none)))
      (pss_cons (ksc 18 sclaw.nd (kcall (okranking T) (hr.mono (by decide)) T.g_ranking T.k_ranking T.b_ranking (kpa (kvl 3) (kpa (kvl 17) pa_nil))))
      (pss_cons (ksl 19 sclaw.nd (pe_slice (r := rSlL K) sl_list (kvl 6) (po_some (pe_op op_add (show PE _ _ (tBM K "list" _ _ _) from kmeth (r := rIndex K) PySem.F.plainAttrs_list PySem.F.slot_list_index PySem.F.type_list_index mt_index (kvl 6) (kpa (kvc 12) pa_nil)) pe_int)) po_none))
      (pss_one (ps_if (pt_cmpR (r := rNeD K) (op_neD hr.units) (pe_lc (own := [("other", 11)]) (g := (gName 11)) (by rfl) sclaw.nd (show PI _ _ _ (iList K _) from pi_list (kvl 19)) (blkOk_by (by kernel_rfl)) (fun _ _ _ _ _ => (kgl 11 sclaw.nd)) (fun _ _ _ _ _ => (pts_one (pt_cmpR op_lt (show PE _ _ (tBM K "list" _ _ _) from kmeth (r := rIndex K) PySem.F.plainAttrs_list PySem.F.slot_list_index PySem.F.type_list_index mt_index (kvc 18) (kpa (kvl 11) pa_nil)) (show PE _ _ (tBM K "list" _ _ _) from kmeth (r := rIndex K) PySem.F.plainAttrs_list PySem.F.slot_list_index PySem.F.type_list_index mt_index (kvc 18) (kpa (kvc 12) pa_nil)) (nomark _)))) (fun _ _ _ _ _ => (kvl 11))) (pe_lst pa_nil) (nomark _)) (pss_one (ps_ret pe_bl)) pss_nil))))) pss_nil)))))))))))))))))
      (pss_one (ps_ret pe_bl)))), fun a ns hl h => ?_⟩
  have h : At K W0 [] ⟨H, H⟩ [.dat (.list (ns.map .int)), .emp, .emp, .emp, .emp, .emp, .emp, .emp, .emp, .emp, .emp, .emp, .emp, .emp, .emp, .emp, .emp, .emp, .emp, .emp] (L2.start nlaw [.ref a]) H := h
  refine q_begun (ns := ns) h rfl hl fun A σ1 H1 h1 => ?_
  dsimp only [List.set] at h1
  have sr : Src K (DW K A) (iRng1 (tCons (tOp (rI0 fun i j => .int (i + j)) (tC (.int 1)) (tCB rMin2 (tCons (tCB (rLenQ K) (tCons (tVar 0) tNil)) (tCons (tC (.int 3)) tNil)))) tNil)) ([.dat (.list (ns.map .int)), .raw (.ref A.d)] ++ List.replicate 18 .emp) _ := src_range (ed_cons (ev_add ev_int (ev_min2 (ev_lenL (evd_var rfl)) ev_int)) ed_nil) (by rw [List.length_map]; split <;> omega) (by rw [List.length_map]; split <;> omega)
  refine q_for h1 (R := fun _ => [.dat (.list (ns.map .int)), .raw (.ref A.d)] ++ List.replicate 18 .emp) (S := fun i => [.dat (.list (ns.map .int)), .raw (.ref A.d), .dat (.int (i : Nat))] ++ List.replicate 17 .emp) (X := fun _ _ => True)
    sr (Le.refl _) (fun _ _ _ => trivial) (fun i d hd => ⟨[2], ?_⟩) (fun Hb i d σ3 H3 hd h3 _ => ?_) (fun σ3 H3 h3 _ => ?_) (fun _ _ _ _ _ z => z)
  · obtain ⟨e, _⟩ := rangeD_get hd
    rw [e]
    exact tg_name
  · have h3 : At K (DW K A) [A.d, A.l] ⟨H1, Hb⟩ [.dat (.list (ns.map .int)), .raw (.ref A.d), .dat (.int (i : Nat)), .emp, .emp, .emp, .emp, .emp, .emp, .emp, .emp, .emp, .emp, .emp, .emp, .emp, .emp, .emp, .emp, .emp] σ3 H3 := h3
    have tk : ∀ n : Int, 0 ≤ n → n ≤ 1000000000 → Nb 1000 n := fun n a b => (Nb.of (n := 30) a (Int.lt_of_le_of_lt b (by decide))).mono (by decide)
    refine q_parN h3 (en_callN rfl end_nil fun _ e => e) (en_if (Φ := IsI fun m => 0 ≤ m ∧ m ≤ 130) (en_eqI (en_take rfl ev_int (by decide) (tk _ (by decide) (by decide))) ev_int) (fun _ => en_int (by decide)) (fun _ => (en_take rfl ev_int (by decide) (tk _ (by decide) (by decide))).imp fun s ⟨n, e, b⟩ => ⟨n, e, b.1, by omega⟩)) fun s1 s2 σ4 H4 p1 p2 h4 => ?_
    obtain ⟨_, rfl, _, _, f, of, rfl⟩ := p1
    obtain ⟨m, rfl, m0, m1⟩ := p2
    dsimp only [List.set] at h4
    refine q_asgN h4 (en_callN rfl (end_of (ed_cons (evd_var rfl) ed_nil) (Ψ := (· = [.int m])) rfl) fun ds e => ⟨m, m0, m1, e⟩) fun s5 σ5 H5 p5 h5 => ?_
    obtain ⟨_, rfl, _, e5, m', fl, em, ol, fn, rfl⟩ := p5
    rw [e5] at em
    cases em
    dsimp only [List.set] at h5
    have lf := ol.1
    have O := rank_ord (f := f) ol
    refine q_par h5 (ea_cons (s := .dat (.list (orderD f fl))) (ev_call (ed_cons (evd_var rfl) (ed_cons (evd_var rfl) ed_nil)) ⟨f, fl, of, ol, rfl, rfl⟩) (ea_cons (ev_lstL (evd_var rfl)) ea_nil)) fun σ6 H6 h6 _ => ?_
    dsimp only [List.set] at h6
    refine q_own' h6 (ef_call (ed_cons (evd_var rfl) (ed_cons (evd_var rfl) ed_nil)) ⟨f, true, fl, of, ol, rfl, rfl⟩) fun l ds σ8 H8 e8 h8 o8 lm lb => ?_
    subst e8
    dsimp only [List.set] at h8
    have ss := say_order (f := f) ol
    have hL : ∀ {es : List PyData}, (∃ ds, PyData.list es = .list ds) ∨ ∃ ds, PyData.list es = .tuple ds := fun {es} => .inl ⟨es, rfl⟩
    refine q_unlessL (i := 8) h8 o8 lm rfl (et_or (a := false) (b := false) (et_same (evd_var rfl) (evd_var rfl) ss (by decide) (by decide) hL) fun _ => et_or (a := false) (b := false) (et_like (evd_var rfl) (evd_var rfl) (shp_field fl) (by decide)) fun _ =>
      et_like (ev_of_ef (ef_callK (gD := fun ds => match ds with | [a, b] => [b, a] | _ => []) (ed_cons (ev_tupL (evd_var rfl)) (ed_cons (evd_var rfl) ed_nil)) ⟨f, false, fl, of, ol, rfl, rfl⟩ fun H vs q => ?_)) (evd_var rfl) ss.shp (by decide)) fun H9 h9 o9 => ?_
    · cases q with
      | cons a q => cases q with
        | cons b q => cases q with
          | nil => exact .cons b (.cons a .nil)
    refine q_rev h9 o9 rfl fun H10 h10 o10 => ?_
    refine q_app (Φ := fun _ => True) h10 o10 rfl (by rw [List.length_reverse, orderD_len]; omega) (en_of_ev ev_non ⟨_, rfl, trivial⟩) fun d10 H11 _ h11 o11 => ?_
    have h12 := (h11.lend o11 lm lb (i := 8) rfl)
    dsimp only [List.set] at h12
    refine q_unless h12 (et_same (ev_of_ef (ef_call (ed_cons (evd_var rfl) (ed_cons (evd_var rfl) ed_nil)) ⟨f, true, fl, of, ol, rfl, rfl⟩)) (evd_var rfl) ss (by decide) (by decide) hL) fun H13 h13 => ?_
    have back : ∀ {σ' H'} {r8 r9 r10 r11 r12 r13 r14 r15 r16 r17 r18 r19 : Sl}, At K (DW K A) [A.d, A.l] ⟨H1, Hb⟩ [.dat (.list (ns.map .int)), .raw (.ref A.d), .dat (.int (i : Nat)), .dat (formD f), .dat (.int m), .dat (.list (fl.map Bid.d)), .dat (.list (orderD f fl)), .dat (.list (fl.map Bid.d)), r8, r9, r10, r11, r12, r13, r14, r15, r16, r17, r18, r19] σ' H' → At K (DW K A) [A.d, A.l] ⟨H1, Hb⟩ ([.dat (.list (ns.map .int)), .raw (.ref A.d)] ++ List.replicate 18 .emp) σ' H' :=
      fun z => z.le (.same (.same (.emp (.emp (.emp (.emp (.emp (.emp (.emp (.emp (.emp (.emp (.emp (.emp (.emp (.emp (.emp (.emp (.emp (.emp .nil))))))))))))))))))))
    by_cases c2 : m < 2
    · refine q_when (b := true) h13 (et_eq (et_test (ev_lt (evd_var rfl) ev_int)) (decide_eq_true c2)) (fun _ H14 h14 _ => ⟨back h14, trivial⟩) (fun q => nomatch q)
    refine q_when (b := false) h13 (et_eq (et_test (ev_lt (evd_var rfl) ev_int)) (decide_eq_false c2)) (fun q => nomatch q) fun _ H14 h14 _ => ?_
    have l2 : 2 ≤ fl.length := by omega
    have el : (orderD f fl).length = fl.length := orderD_len f fl
    have itm : ∀ {d : PyData}, d ∈ orderD f fl → ∃ j : Nat, d = .int (j : Int) ∧ j < fl.length := fun {d} hd => by
      unfold orderD at hd
      obtain ⟨j, hj, rfl⟩ := List.mem_map.mp hd
      exact ⟨j, rfl, List.mem_range.mp ((ordL_perm _ _).mem_iff.mp hj)⟩
    -- the laps
    refine q_forE (α := Unit) (R := fun _ _ => [.dat (.list (ns.map .int)), .raw (.ref A.d), .dat (.int (i : Nat)), .dat (formD f), .dat (.int m), .dat (.list (fl.map Bid.d)), .dat (.list (orderD f fl)), .dat (.list (fl.map Bid.d)), .emp, .emp, .emp, .emp, .emp, .emp, .emp, .emp, .emp, .emp, .emp, .emp])
      (S := fun j _ => [.dat (.list (ns.map .int)), .raw (.ref A.d), .dat (.int (i : Nat)), .dat (formD f), .dat (.int m), .dat (.list (fl.map Bid.d)), .dat (.list (orderD f fl)), .dat (.list (fl.map Bid.d)), .emp, .dat (.int (j : Nat)), .emp, .emp, .emp, .emp, .emp, .emp, .emp, .emp, .emp, .emp]) (X := fun _ _ _ => True) () h14 (src_range (n := 4) (ed_cons ev_int ed_nil) (by decide) (by decide))
      (.same (.same (.same (.same (.same (.same (.same (.same (.emp (.emp (.emp (.emp (.emp (.emp (.emp (.emp (.emp (.emp (.emp (.emp .nil)))))))))))))))))))) (fun _ _ _ => trivial) (fun j p d hd => ⟨[9], ?_⟩) (fun Hb2 j p d σ15 H15 hd h15 _ => ?_) (fun p σ15 H15 h15 _ => ?_) (fun _ _ _ _ _ _ z => z)
    · obtain ⟨e, _⟩ := rangeD_get (n := 4) hd
      rw [e]
      exact tg_name
    · have dr : En K (DW K A) (tOp (rIxL K) (tVar 6) (tCall (spN K Pt Gt) [] E0 (tCons (tVar 1) (tCons (tVar 4) tNil)))) [.dat (.list (ns.map .int)), .raw (.ref A.d), .dat (.int (i : Nat)), .dat (formD f), .dat (.int m), .dat (.list (fl.map Bid.d)), .dat (.list (orderD f fl)), .dat (.list (fl.map Bid.d)), .emp, .dat (.int (j : Nat)), .emp, .emp, .emp, .emp, .emp, .emp, .emp, .emp, .emp, .emp] (IsD fun d => d ∈ orderD f fl) :=
        en_ixL (evd_var rfl) (en_take rfl (evd_var rfl) (by omega) (tk _ m0 (by omega))) fun n b => ⟨b.1, by rw [el]; omega⟩
      refine q_parN h15 dr dr fun s1 s2 σ16 H16 p1 p2 h16 => ?_
      obtain ⟨d1, rfl, q1⟩ := p1
      obtain ⟨d2, rfl, q2⟩ := p2
      obtain ⟨j1, rfl, l1⟩ := itm q1
      obtain ⟨j2, rfl, l2'⟩ := itm q2
      dsimp only [List.set] at h16
      obtain ⟨k1, e1, _, n1⟩ := pos_ex O l1
      obtain ⟨k2, e2, _, n2⟩ := pos_ex O l2'
      refine s_unless h16 (et_eq (et_and (b := false) (et_test (ev_neI (evd_var rfl) (evd_var rfl))) fun c => ?_) (Bool.and_false _)) fun H17 h17 => ⟨(), h17.le (.same (.same (.same (.same (.same (.same (.same (.same (.emp (.emp (.emp (.emp (.emp (.emp (.emp (.emp (.emp (.emp (.emp (.emp .nil)))))))))))))))))))), trivial⟩
      have nj : j1 ≠ j2 := fun z => by subst z; simp at c
      have same : decide ((k1 : Int) < (k2 : Int)) = rankL f fl j1 j2 := by
        rw [Bool.eq_iff_iff, decide_eq_true_eq, ← place_lt O (ordL_sorted O _) e1 e2]
        omega
      exact et_eq (et_test (ev_neS (ev_reprB (ev_call (ed_cons (evd_var rfl) (ed_cons (evd_var rfl) (ed_cons (evd_var rfl) (ed_cons (evd_var rfl) ed_nil)))) ⟨f, true, fl, j1, j2, of, ol, l1, l2', nj, rfl, rfl⟩)) (ev_reprB (evd_eq (ev_lt (ev_pos (evd_var rfl) (evd_var rfl) e1 n1) (ev_pos (evd_var rfl) (evd_var rfl) e2 n2)) (congrArg PyData.bool same))))) (by simp)
    -- the last and the first
    have lo := order_len f fl
    have f0 : (ordL (rankL f fl) fl.length)[0]? = some (ordL (rankL f fl) fl.length)[0] := List.getElem?_eq_getElem (by omega)
    have f1 : (ordL (rankL f fl) fl.length)[fl.length - 1]? = some (ordL (rankL f fl) fl.length)[fl.length - 1] := List.getElem?_eq_getElem (by omega)
    generalize (ordL (rankL f fl) fl.length)[0] = b0 at f0
    generalize (ordL (rankL f fl) fl.length)[fl.length - 1] = b1 at f1
    have r01 : rankL f fl b0 b1 = true := (place_lt O (ordL_sorted O _) f0 f1).mp (by omega)
    have r10 : rankL f fl b1 b0 = false := O.asy r01
    have n10 : b1 ≠ b0 := fun z => by rw [z, O.irr] at r01; cases r01
    have lb0 : b0 < fl.length := List.mem_range.mp ((ordL_perm _ _).mem_iff.mp (List.mem_of_getElem? f0))
    have lb1 : b1 < fl.length := List.mem_range.mp ((ordL_perm _ _).mem_iff.mp (List.mem_of_getElem? f1))
    have d0 : atI (orderD f fl) 0 = some (.int (b0 : Int)) := atI_nat (j := 0) (by unfold orderD; rw [List.getElem?_map, f0]; rfl)
    have d1 : atI (orderD f fl) (-1) = some (.int (b1 : Int)) := atI_last (by rw [el]; unfold orderD; rw [List.getElem?_map, f1]; rfl)
    refine q_unless h15 (et_eq (et_test (ev_notB (a := false) (b := false) (evd_eq (ev_callK (gD := fun ds => match ds with | [a, b, c, e] => [e, c, b, a] | _ => []) (ed_cons (ev_ixL (evd_var rfl) ev_int d0) (ed_cons (ev_ixL (evd_var rfl) (ev_neg ev_int) d1) (ed_cons (evd_var rfl) (ed_cons (evd_var rfl) ed_nil)))) ⟨f, true, fl, b1, b0, of, ol, lb1, lb0, n10, rfl, rfl⟩ fun H vs q => ?_) (congrArg PyData.bool r10)) ev_bl)) rfl) fun H16 h16 => ?_
    · cases q with
      | cons a q => cases q with
        | cons b q => cases q with
          | cons c q => cases q with
            | cons e q => cases q with
              | nil => exact .cons e (.cons c (.cons b (.cons a .nil)))
    -- index
    refine q_asgN h16 (en_take rfl (evd_var rfl) (by omega) (tk _ m0 (by omega))) fun s17 σ17 H17 p17 h17 => ?_
    obtain ⟨iz, rfl, iz0, iz1⟩ := p17
    obtain ⟨ix, rfl⟩ := Int.eq_ofNat_of_zero_le iz0
    dsimp only [List.set] at h17
    have lix : ix < fl.length := by omega
    have bx : fl[ix]? = some fl[ix] := List.getElem?_eq_getElem lix
    generalize fl[ix] = b at bx
    have ob := ol.2 b (List.mem_of_getElem? bx)
    have db : (fl.map Bid.d)[ix]? = some b.d := by rw [List.getElem?_map, bx]; rfl
    refine q_tgt h17 (ev_ixL (d := .tuple [.str "bid", .int b.price, .tuple (b.marks.map .int)]) (evd_var rfl) (evd_var rfl) (atI_nat db)) (tg_tup (tgs_cons tg_name (tgs_cons tg_name (tgs_cons tg_name tgs_nil))) rfl) fun σ18 H18 h18 _ => ?_
    dsimp only [List.set] at h18
    -- lower
    have olo := ob.lo
    have ohi := ob.hi
    refine q_asgN h18 (en_pick rfl (en_lst (Ψ := fun ds => ds.length = 4 ∧ ∀ d ∈ ds, ∃ z : Int, d = .int z) (end_all1 (isd_evd ev_int ⟨_, rfl⟩) (end_all1 (isd_evd (ev_sub (evd_var rfl) ev_int) ⟨_, rfl⟩) (end_all1 (isd_evd (ev_divW (evd_var rfl) ev_int (cdw (by decide) (tk _ (by decide) (by decide)))) ⟨_, rfl⟩)
      (end_all1 (isd_of (en_I0 (Ψ := fun _ => True) (en_int (Ψ := (· = 1)) rfl) (en_take rfl (evd_var rfl) (by omega) (tk _ (by omega) (by omega))) (fun _ _ _ _ => trivial)) fun n _ => ⟨n, rfl⟩) end_all0)))) fun ds q => by rw [q.1]; decide) fun xs q => ⟨fun z => by rw [z] at q; exact absurd q.1 (by decide), by rw [q.1]; decide⟩) fun s19 σ19 H19 p19 h19 => ?_
    obtain ⟨_, rfl, xs, hx, hm⟩ := p19
    obtain ⟨z, rfl⟩ := hx.2 _ hm
    dsimp only [List.set] at h19
    refine s_if (b := decide (0 < z) && decide (z < b.price)) h19 (et_test (ev_chain (p := fun i j => decide (i < j)) (p' := fun i j => decide (i < j)) ev_int (evd_var rfl) (evd_var rfl))) (fun c H20 h20 _ => ?_) (fun _ H20 h20 _ => ⟨back h20, trivial⟩)
    simp only [Bool.and_eq_true, decide_eq_true_eq] at c
    obtain ⟨ol2, hrt⟩ := heart of ol bx c.1 c.2
    have ll : (fl.set ix ⟨z, b.marks⟩).length = fl.length := List.length_set
    have eL : (fl.set ix ⟨z, b.marks⟩).map Bid.d = (fl.map Bid.d).take ix ++ [Bid.d ⟨z, b.marks⟩] ++ (fl.map Bid.d).drop (ix + 1) := by
      rw [List.set_eq_take_append_cons_drop, if_pos lix, List.map_append, List.map_cons, List.map_take, List.map_drop, List.append_assoc]
      rfl
    have lm : (fl.map Bid.d).length = fl.length := List.length_map _
    refine q_asg h20 (s := .dat (.list ((fl.set ix ⟨z, b.marks⟩).map Bid.d))) (evd_eq (ev_cat (ev_cat (ev_till (j := ix) (evd_var rfl) (evd_var rfl) (by rw [lm]; omega)) (ev_lst (ds := [Bid.d ⟨z, b.marks⟩]) (ed_cons (ev_tup (ed_cons (evd_var rfl) (ed_cons (evd_var rfl) (ed_cons (evd_var rfl) ed_nil))) (by show 3 ≤ 100000; decide)) ed_nil) (by show 1 ≤ 100000; decide)) (by rw [List.length_take, lm]; show _ + 1 ≤ _; omega))
      (ev_from (j := ix + 1) (evd_var rfl) (evd_eq (ev_add (evd_var rfl) ev_int) rfl) (by rw [lm]; omega)) (by rw [List.length_append, List.length_take, List.length_drop, lm]; show _ + 1 + _ ≤ _; omega)) (congrArg PyData.list eL.symm)) fun σ21 H21 h21 _ => ?_
    dsimp only [List.set] at h21
    refine q_asg h21 (ev_of_ef (ef_call (ed_cons (evd_var rfl) (ed_cons (evd_var rfl) ed_nil)) ⟨f, true, fl.set ix ⟨z, b.marks⟩, of, ol2, rfl, rfl⟩)) fun σ22 H22 h22 _ => ?_
    dsimp only [List.set] at h22
    obtain ⟨k, ek, lk, nk⟩ := pos_ex O lix
    refine q_asg h22 (s := .dat (.list ((orderD f fl).drop (k + 1)))) (ev_from (j := k + 1) (evd_var rfl) (evd_eq (ev_add (ev_pos (evd_var rfl) (evd_var rfl) ek nk) ev_int) rfl) (by rw [el]; omega)) fun σ23 H23 h23 _ => ?_
    dsimp only [List.set] at h23
    have O2 := rank_ord (f := f) ol2
    have eD : (orderD f fl).drop (k + 1) = ((ordL (rankL f fl) fl.length).drop (k + 1)).map fun (i : Nat) => PyData.int (i : Int) := by unfold orderD; rw [List.map_drop]
    refine s_unless h23 (et_like (d := .list []) (evd_eq (ev_lc1 (xs := (ordL (rankL f fl) fl.length).drop (k + 1)) (enc := fun (j : Nat) => .int (j : Int)) (f := fun (j : Nat) => .int (j : Int)) (p := fun _ => false) (j := 11) (src_list (evd_eq (evd_var rfl) (congrArg PyData.list eD))) (by rw [List.length_drop, lo]; omega) (fun x hx => ?_) (fun x _ q => nomatch q)) (by rw [List.filter_eq_nil_iff.mpr fun _ _ => Bool.false_ne_true]; rfl)) (ev_lst ed_nil (by decide)) (shp_list (n := 0) (by simp)) (by decide)) fun H24 h24 => ⟨back h24, trivial⟩
    obtain ⟨m2, em2⟩ := List.mem_iff_getElem?.mp hx
    rw [List.getElem?_drop] at em2
    have r1 : rankL f fl ix x = true := (place_lt O (ordL_sorted O _) ek em2).mp (by omega)
    have lx : x < fl.length := List.mem_range.mp ((ordL_perm _ _).mem_iff.mp (List.mem_of_getElem? em2))
    have r2 := hrt x lx r1
    obtain ⟨k1, e1, _, n1⟩ := pos_ex O2 (n := (fl.set ix ⟨z, b.marks⟩).length) (j := x) (by rw [ll]; exact lx)
    obtain ⟨k2, e2, _, n2⟩ := pos_ex O2 (n := (fl.set ix ⟨z, b.marks⟩).length) (j := ix) (by rw [ll]; exact lix)
    have r3 := (place_lt O2 (ordL_sorted O2 _) e2 e1).mpr r2
    exact et_eq (et_test (ev_lt (ev_pos (evd_var rfl) (evd_var rfl) e1 n1) (ev_pos (evd_var rfl) (evd_var rfl) e2 n2))) (decide_eq_false (by omega))
  · exact s_fin h3 ev_bl fun v H' _ o => by
      cases o
      rfl
end
end Sc

/-! the text as it stands behind the top. -/
namespace Sc
open PySem L2 Fw
open PyProof.Rows
@[reducible] def txt_mk {K : PySem.W.Frag} {h : Heap} {mg : Str → Option Value} (X : K.In h) (G : h.Ns mainGlobals mg)
    {ais_whole : Addr} {odis_whole anis_whole : Option Addr} {slis_whole : Array (Option Value)} {ocis_whole kVis_whole dcis_whole pmis_whole cdis_whole ctis_whole : Value}
    {ais_bid : Addr} {odis_bid anis_bid : Option Addr} {slis_bid : Array (Option Value)} {ocis_bid kVis_bid dcis_bid pmis_bid cdis_bid ctis_bid : Value}
    {ais_field : Addr} {odis_field anis_field : Option Addr} {slis_field : Array (Option Value)} {ocis_field kVis_field dcis_field pmis_field cdis_field ctis_field : Value}
    {aneed_field : Addr} {odneed_field anneed_field : Option Addr} {slneed_field : Array (Option Value)} {ocneed_field kVneed_field dcneed_field pmneed_field cdneed_field ctneed_field : Value}
    {aneed_index : Addr} {odneed_index anneed_index : Option Addr} {slneed_index : Array (Option Value)} {ocneed_index kVneed_index dcneed_index pmneed_index cdneed_index ctneed_index : Value}
    {aprices_of : Addr} {odprices_of anprices_of : Option Addr} {slprices_of : Array (Option Value)} {ocprices_of kVprices_of dcprices_of pmprices_of cdprices_of ctprices_of : Value}
    {ais_term : Addr} {odis_term anis_term : Option Addr} {slis_term : Array (Option Value)} {ocis_term kVis_term dcis_term pmis_term cdis_term ctis_term : Value}
    {ais_formula : Addr} {odis_formula anis_formula : Option Addr} {slis_formula : Array (Option Value)} {ocis_formula kVis_formula dcis_formula pmis_formula cdis_formula ctis_formula : Value}
    {aneed_formula : Addr} {odneed_formula anneed_formula : Option Addr} {slneed_formula : Array (Option Value)} {ocneed_formula kVneed_formula dcneed_formula pmneed_formula cdneed_formula ctneed_formula : Value}
    {amark_weights : Addr} {odmark_weights anmark_weights : Option Addr} {slmark_weights : Array (Option Value)} {ocmark_weights kVmark_weights dcmark_weights pmmark_weights cdmark_weights ctmark_weights : Value}
    {arelative_weights : Addr} {odrelative_weights anrelative_weights : Option Addr} {slrelative_weights : Array (Option Value)} {ocrelative_weights kVrelative_weights dcrelative_weights pmrelative_weights cdrelative_weights ctrelative_weights : Value}
    {amarks_part : Addr} {odmarks_part anmarks_part : Option Addr} {slmarks_part : Array (Option Value)} {ocmarks_part kVmarks_part dcmarks_part pmmarks_part cdmarks_part ctmarks_part : Value}
    {ascore_of : Addr} {odscore_of anscore_of : Option Addr} {slscore_of : Array (Option Value)} {ocscore_of kVscore_of dcscore_of pmscore_of cdscore_of ctscore_of : Value}
    {ascores_of : Addr} {odscores_of anscores_of : Option Addr} {slscores_of : Array (Option Value)} {ocscores_of kVscores_of dcscores_of pmscores_of cdscores_of ctscores_of : Value}
    {a_law_begun : Addr} {od_law_begun an_law_begun : Option Addr} {sl_law_begun : Array (Option Value)} {oc_law_begun kV_law_begun dc_law_begun pm_law_begun cd_law_begun ct_law_begun : Value}
    {a_law_mixed : Addr} {od_law_mixed an_law_mixed : Option Addr} {sl_law_mixed : Array (Option Value)} {oc_law_mixed kV_law_mixed dc_law_mixed pm_law_mixed cd_law_mixed ct_law_mixed : Value}
    {a_law_take : Addr} {od_law_take an_law_take : Option Addr} {sl_law_take : Array (Option Value)} {oc_law_take kV_law_take dc_law_take pm_law_take cd_law_take ct_law_take : Value}
    {a_law_pick : Addr} {od_law_pick an_law_pick : Option Addr} {sl_law_pick : Array (Option Value)} {oc_law_pick kV_law_pick dc_law_pick pm_law_pick cd_law_pick ct_law_pick : Value}
    {a_law_price : Addr} {od_law_price an_law_price : Option Addr} {sl_law_price : Array (Option Value)} {oc_law_price kV_law_price dc_law_price pm_law_price cd_law_price ct_law_price : Value}
    {a_law_bid : Addr} {od_law_bid an_law_bid : Option Addr} {sl_law_bid : Array (Option Value)} {oc_law_bid kV_law_bid dc_law_bid pm_law_bid cd_law_bid ct_law_bid : Value}
    {a_law_field : Addr} {od_law_field an_law_field : Option Addr} {sl_law_field : Array (Option Value)} {oc_law_field kV_law_field dc_law_field pm_law_field cd_law_field ct_law_field : Value}
    {a_law_formula : Addr} {od_law_formula an_law_formula : Option Addr} {sl_law_formula : Array (Option Value)} {oc_law_formula kV_law_formula dc_law_formula pm_law_formula cd_law_formula ct_law_formula : Value}
    {a_law_over : Addr} {od_law_over an_law_over : Option Addr} {sl_law_over : Array (Option Value)} {oc_law_over kV_law_over dc_law_over pm_law_over cd_law_over ct_law_over : Value}
    {aleads : Addr} {odleads anleads : Option Addr} {slleads : Array (Option Value)} {ocleads kVleads dcleads pmleads cdleads ctleads : Value}
    {aranking_of : Addr} {odranking_of anranking_of : Option Addr} {slranking_of : Array (Option Value)} {ocranking_of kVranking_of dcranking_of pmranking_of cdranking_of ctranking_of : Value}
    {aranking : Addr} {odranking anranking : Option Addr} {slranking : Array (Option Value)} {ocranking kVranking dcranking pmranking cdranking ctranking : Value}
    {aahead : Addr} {odahead anahead : Option Addr} {slahead : Array (Option Value)} {ocahead kVahead dcahead pmahead cdahead ctahead : Value}
    {a_law_leads : Addr} {od_law_leads an_law_leads : Option Addr} {sl_law_leads : Array (Option Value)} {oc_law_leads kV_law_leads dc_law_leads pm_law_leads cd_law_leads ct_law_leads : Value}
    {a_law_order : Addr} {od_law_order an_law_order : Option Addr} {sl_law_order : Array (Option Value)} {oc_law_order kV_law_order dc_law_order pm_law_order cd_law_order ct_law_order : Value}
    {alaw : Addr} {odlaw anlaw : Option Addr} {sllaw : Array (Option Value)} {oclaw kVlaw dclaw pmlaw cdlaw ctlaw : Value}
    (a_is_whole : PySem.W.nsIn K mainGlobals "is_whole" = some (some (.ref ais_whole))) (l_is_whole : K.lookup ais_whole = some ⟨ocis_whole, odis_whole, .func (PySem.W.fnOf "is_whole" "is_whole" (defArgs sis_whole) (defBody sis_whole) (defScope sis_whole) .none kVis_whole dcis_whole pmis_whole anis_whole cdis_whole ctis_whole), slis_whole⟩) (c_is_whole : PySem.W.codeIn K cdis_whole "is_whole" = true) (k_is_whole : PySem.W.keepIn K (.ref ais_whole) = true)
    (a_is_bid : PySem.W.nsIn K mainGlobals "is_bid" = some (some (.ref ais_bid))) (l_is_bid : K.lookup ais_bid = some ⟨ocis_bid, odis_bid, .func (PySem.W.fnOf "is_bid" "is_bid" (defArgs sis_bid) (defBody sis_bid) (defScope sis_bid) .none kVis_bid dcis_bid pmis_bid anis_bid cdis_bid ctis_bid), slis_bid⟩) (c_is_bid : PySem.W.codeIn K cdis_bid "is_bid" = true) (k_is_bid : PySem.W.keepIn K (.ref ais_bid) = true)
    (a_is_field : PySem.W.nsIn K mainGlobals "is_field" = some (some (.ref ais_field))) (l_is_field : K.lookup ais_field = some ⟨ocis_field, odis_field, .func (PySem.W.fnOf "is_field" "is_field" (defArgs sis_field) (defBody sis_field) (defScope sis_field) .none kVis_field dcis_field pmis_field anis_field cdis_field ctis_field), slis_field⟩) (c_is_field : PySem.W.codeIn K cdis_field "is_field" = true) (k_is_field : PySem.W.keepIn K (.ref ais_field) = true)
    (a_need_field : PySem.W.nsIn K mainGlobals "need_field" = some (some (.ref aneed_field))) (l_need_field : K.lookup aneed_field = some ⟨ocneed_field, odneed_field, .func (PySem.W.fnOf "need_field" "need_field" (defArgs sneed_field) (defBody sneed_field) (defScope sneed_field) .none kVneed_field dcneed_field pmneed_field anneed_field cdneed_field ctneed_field), slneed_field⟩) (c_need_field : PySem.W.codeIn K cdneed_field "need_field" = true) (k_need_field : PySem.W.keepIn K (.ref aneed_field) = true)
    (a_need_index : PySem.W.nsIn K mainGlobals "need_index" = some (some (.ref aneed_index))) (l_need_index : K.lookup aneed_index = some ⟨ocneed_index, odneed_index, .func (PySem.W.fnOf "need_index" "need_index" (defArgs sneed_index) (defBody sneed_index) (defScope sneed_index) .none kVneed_index dcneed_index pmneed_index anneed_index cdneed_index ctneed_index), slneed_index⟩) (c_need_index : PySem.W.codeIn K cdneed_index "need_index" = true) (k_need_index : PySem.W.keepIn K (.ref aneed_index) = true)
    (a_prices_of : PySem.W.nsIn K mainGlobals "prices_of" = some (some (.ref aprices_of))) (l_prices_of : K.lookup aprices_of = some ⟨ocprices_of, odprices_of, .func (PySem.W.fnOf "prices_of" "prices_of" (defArgs sprices_of) (defBody sprices_of) (defScope sprices_of) .none kVprices_of dcprices_of pmprices_of anprices_of cdprices_of ctprices_of), slprices_of⟩) (c_prices_of : PySem.W.codeIn K cdprices_of "prices_of" = true) (k_prices_of : PySem.W.keepIn K (.ref aprices_of) = true)
    (a_is_term : PySem.W.nsIn K mainGlobals "is_term" = some (some (.ref ais_term))) (l_is_term : K.lookup ais_term = some ⟨ocis_term, odis_term, .func (PySem.W.fnOf "is_term" "is_term" (defArgs sis_term) (defBody sis_term) (defScope sis_term) .none kVis_term dcis_term pmis_term anis_term cdis_term ctis_term), slis_term⟩) (c_is_term : PySem.W.codeIn K cdis_term "is_term" = true) (k_is_term : PySem.W.keepIn K (.ref ais_term) = true)
    (a_is_formula : PySem.W.nsIn K mainGlobals "is_formula" = some (some (.ref ais_formula))) (l_is_formula : K.lookup ais_formula = some ⟨ocis_formula, odis_formula, .func (PySem.W.fnOf "is_formula" "is_formula" (defArgs sis_formula) (defBody sis_formula) (defScope sis_formula) .none kVis_formula dcis_formula pmis_formula anis_formula cdis_formula ctis_formula), slis_formula⟩) (c_is_formula : PySem.W.codeIn K cdis_formula "is_formula" = true) (k_is_formula : PySem.W.keepIn K (.ref ais_formula) = true)
    (a_need_formula : PySem.W.nsIn K mainGlobals "need_formula" = some (some (.ref aneed_formula))) (l_need_formula : K.lookup aneed_formula = some ⟨ocneed_formula, odneed_formula, .func (PySem.W.fnOf "need_formula" "need_formula" (defArgs sneed_formula) (defBody sneed_formula) (defScope sneed_formula) .none kVneed_formula dcneed_formula pmneed_formula anneed_formula cdneed_formula ctneed_formula), slneed_formula⟩) (c_need_formula : PySem.W.codeIn K cdneed_formula "need_formula" = true) (k_need_formula : PySem.W.keepIn K (.ref aneed_formula) = true)
    (a_mark_weights : PySem.W.nsIn K mainGlobals "mark_weights" = some (some (.ref amark_weights))) (l_mark_weights : K.lookup amark_weights = some ⟨ocmark_weights, odmark_weights, .func (PySem.W.fnOf "mark_weights" "mark_weights" (defArgs smark_weights) (defBody smark_weights) (defScope smark_weights) .none kVmark_weights dcmark_weights pmmark_weights anmark_weights cdmark_weights ctmark_weights), slmark_weights⟩) (c_mark_weights : PySem.W.codeIn K cdmark_weights "mark_weights" = true) (k_mark_weights : PySem.W.keepIn K (.ref amark_weights) = true)
    (a_relative_weights : PySem.W.nsIn K mainGlobals "relative_weights" = some (some (.ref arelative_weights))) (l_relative_weights : K.lookup arelative_weights = some ⟨ocrelative_weights, odrelative_weights, .func (PySem.W.fnOf "relative_weights" "relative_weights" (defArgs srelative_weights) (defBody srelative_weights) (defScope srelative_weights) .none kVrelative_weights dcrelative_weights pmrelative_weights anrelative_weights cdrelative_weights ctrelative_weights), slrelative_weights⟩) (c_relative_weights : PySem.W.codeIn K cdrelative_weights "relative_weights" = true) (k_relative_weights : PySem.W.keepIn K (.ref arelative_weights) = true)
    (a_marks_part : PySem.W.nsIn K mainGlobals "marks_part" = some (some (.ref amarks_part))) (l_marks_part : K.lookup amarks_part = some ⟨ocmarks_part, odmarks_part, .func (PySem.W.fnOf "marks_part" "marks_part" (defArgs smarks_part) (defBody smarks_part) (defScope smarks_part) .none kVmarks_part dcmarks_part pmmarks_part anmarks_part cdmarks_part ctmarks_part), slmarks_part⟩) (c_marks_part : PySem.W.codeIn K cdmarks_part "marks_part" = true) (k_marks_part : PySem.W.keepIn K (.ref amarks_part) = true)
    (a_score_of : PySem.W.nsIn K mainGlobals "score_of" = some (some (.ref ascore_of))) (l_score_of : K.lookup ascore_of = some ⟨ocscore_of, odscore_of, .func (PySem.W.fnOf "score_of" "score_of" (defArgs sscore_of) (defBody sscore_of) (defScope sscore_of) .none kVscore_of dcscore_of pmscore_of anscore_of cdscore_of ctscore_of), slscore_of⟩) (c_score_of : PySem.W.codeIn K cdscore_of "score_of" = true) (k_score_of : PySem.W.keepIn K (.ref ascore_of) = true)
    (a_scores_of : PySem.W.nsIn K mainGlobals "scores_of" = some (some (.ref ascores_of))) (l_scores_of : K.lookup ascores_of = some ⟨ocscores_of, odscores_of, .func (PySem.W.fnOf "scores_of" "scores_of" (defArgs sscores_of) (defBody sscores_of) (defScope sscores_of) .none kVscores_of dcscores_of pmscores_of anscores_of cdscores_of ctscores_of), slscores_of⟩) (c_scores_of : PySem.W.codeIn K cdscores_of "scores_of" = true) (k_scores_of : PySem.W.keepIn K (.ref ascores_of) = true)
    (a__law_begun : PySem.W.nsIn K mainGlobals "_law_begun" = some (some (.ref a_law_begun))) (l__law_begun : K.lookup a_law_begun = some ⟨oc_law_begun, od_law_begun, .func (PySem.W.fnOf "_law_begun" "_law_begun" (defArgs s_law_begun) (defBody s_law_begun) (defScope s_law_begun) .none kV_law_begun dc_law_begun pm_law_begun an_law_begun cd_law_begun ct_law_begun), sl_law_begun⟩) (c__law_begun : PySem.W.codeIn K cd_law_begun "_law_begun" = true) (k__law_begun : PySem.W.keepIn K (.ref a_law_begun) = true)
    (a__law_mixed : PySem.W.nsIn K mainGlobals "_law_mixed" = some (some (.ref a_law_mixed))) (l__law_mixed : K.lookup a_law_mixed = some ⟨oc_law_mixed, od_law_mixed, .func (PySem.W.fnOf "_law_mixed" "_law_mixed" (defArgs s_law_mixed) (defBody s_law_mixed) (defScope s_law_mixed) .none kV_law_mixed dc_law_mixed pm_law_mixed an_law_mixed cd_law_mixed ct_law_mixed), sl_law_mixed⟩) (c__law_mixed : PySem.W.codeIn K cd_law_mixed "_law_mixed" = true) (k__law_mixed : PySem.W.keepIn K (.ref a_law_mixed) = true)
    (a__law_take : PySem.W.nsIn K mainGlobals "_law_take" = some (some (.ref a_law_take))) (l__law_take : K.lookup a_law_take = some ⟨oc_law_take, od_law_take, .func (PySem.W.fnOf "_law_take" "_law_take" (defArgs s_law_take) (defBody s_law_take) (defScope s_law_take) .none kV_law_take dc_law_take pm_law_take an_law_take cd_law_take ct_law_take), sl_law_take⟩) (c__law_take : PySem.W.codeIn K cd_law_take "_law_take" = true) (k__law_take : PySem.W.keepIn K (.ref a_law_take) = true)
    (a__law_pick : PySem.W.nsIn K mainGlobals "_law_pick" = some (some (.ref a_law_pick))) (l__law_pick : K.lookup a_law_pick = some ⟨oc_law_pick, od_law_pick, .func (PySem.W.fnOf "_law_pick" "_law_pick" (defArgs s_law_pick) (defBody s_law_pick) (defScope s_law_pick) .none kV_law_pick dc_law_pick pm_law_pick an_law_pick cd_law_pick ct_law_pick), sl_law_pick⟩) (c__law_pick : PySem.W.codeIn K cd_law_pick "_law_pick" = true) (k__law_pick : PySem.W.keepIn K (.ref a_law_pick) = true)
    (a__law_price : PySem.W.nsIn K mainGlobals "_law_price" = some (some (.ref a_law_price))) (l__law_price : K.lookup a_law_price = some ⟨oc_law_price, od_law_price, .func (PySem.W.fnOf "_law_price" "_law_price" (defArgs s_law_price) (defBody s_law_price) (defScope s_law_price) .none kV_law_price dc_law_price pm_law_price an_law_price cd_law_price ct_law_price), sl_law_price⟩) (c__law_price : PySem.W.codeIn K cd_law_price "_law_price" = true) (k__law_price : PySem.W.keepIn K (.ref a_law_price) = true)
    (a__law_bid : PySem.W.nsIn K mainGlobals "_law_bid" = some (some (.ref a_law_bid))) (l__law_bid : K.lookup a_law_bid = some ⟨oc_law_bid, od_law_bid, .func (PySem.W.fnOf "_law_bid" "_law_bid" (defArgs s_law_bid) (defBody s_law_bid) (defScope s_law_bid) .none kV_law_bid dc_law_bid pm_law_bid an_law_bid cd_law_bid ct_law_bid), sl_law_bid⟩) (c__law_bid : PySem.W.codeIn K cd_law_bid "_law_bid" = true) (k__law_bid : PySem.W.keepIn K (.ref a_law_bid) = true)
    (a__law_field : PySem.W.nsIn K mainGlobals "_law_field" = some (some (.ref a_law_field))) (l__law_field : K.lookup a_law_field = some ⟨oc_law_field, od_law_field, .func (PySem.W.fnOf "_law_field" "_law_field" (defArgs s_law_field) (defBody s_law_field) (defScope s_law_field) .none kV_law_field dc_law_field pm_law_field an_law_field cd_law_field ct_law_field), sl_law_field⟩) (c__law_field : PySem.W.codeIn K cd_law_field "_law_field" = true) (k__law_field : PySem.W.keepIn K (.ref a_law_field) = true)
    (a__law_formula : PySem.W.nsIn K mainGlobals "_law_formula" = some (some (.ref a_law_formula))) (l__law_formula : K.lookup a_law_formula = some ⟨oc_law_formula, od_law_formula, .func (PySem.W.fnOf "_law_formula" "_law_formula" (defArgs s_law_formula) (defBody s_law_formula) (defScope s_law_formula) .none kV_law_formula dc_law_formula pm_law_formula an_law_formula cd_law_formula ct_law_formula), sl_law_formula⟩) (c__law_formula : PySem.W.codeIn K cd_law_formula "_law_formula" = true) (k__law_formula : PySem.W.keepIn K (.ref a_law_formula) = true)
    (a__law_over : PySem.W.nsIn K mainGlobals "_law_over" = some (some (.ref a_law_over))) (l__law_over : K.lookup a_law_over = some ⟨oc_law_over, od_law_over, .func (PySem.W.fnOf "_law_over" "_law_over" (defArgs s_law_over) (defBody s_law_over) (defScope s_law_over) .none kV_law_over dc_law_over pm_law_over an_law_over cd_law_over ct_law_over), sl_law_over⟩) (c__law_over : PySem.W.codeIn K cd_law_over "_law_over" = true) (k__law_over : PySem.W.keepIn K (.ref a_law_over) = true)
    (a_leads : PySem.W.nsIn K mainGlobals "leads" = some (some (.ref aleads))) (l_leads : K.lookup aleads = some ⟨ocleads, odleads, .func (PySem.W.fnOf "leads" "leads" (defArgs sleads) (defBody sleads) (defScope sleads) .none kVleads dcleads pmleads anleads cdleads ctleads), slleads⟩) (c_leads : PySem.W.codeIn K cdleads "leads" = true) (k_leads : PySem.W.keepIn K (.ref aleads) = true)
    (a_ranking_of : PySem.W.nsIn K mainGlobals "ranking_of" = some (some (.ref aranking_of))) (l_ranking_of : K.lookup aranking_of = some ⟨ocranking_of, odranking_of, .func (PySem.W.fnOf "ranking_of" "ranking_of" (defArgs sranking_of) (defBody sranking_of) (defScope sranking_of) .none kVranking_of dcranking_of pmranking_of anranking_of cdranking_of ctranking_of), slranking_of⟩) (c_ranking_of : PySem.W.codeIn K cdranking_of "ranking_of" = true) (k_ranking_of : PySem.W.keepIn K (.ref aranking_of) = true)
    (a_ranking : PySem.W.nsIn K mainGlobals "ranking" = some (some (.ref aranking))) (l_ranking : K.lookup aranking = some ⟨ocranking, odranking, .func (PySem.W.fnOf "ranking" "ranking" (defArgs sranking) (defBody sranking) (defScope sranking) .none kVranking dcranking pmranking anranking cdranking ctranking), slranking⟩) (c_ranking : PySem.W.codeIn K cdranking "ranking" = true) (k_ranking : PySem.W.keepIn K (.ref aranking) = true)
    (a_ahead : PySem.W.nsIn K mainGlobals "ahead" = some (some (.ref aahead))) (l_ahead : K.lookup aahead = some ⟨ocahead, odahead, .func (PySem.W.fnOf "ahead" "ahead" (defArgs sahead) (defBody sahead) (defScope sahead) .none kVahead dcahead pmahead anahead cdahead ctahead), slahead⟩) (c_ahead : PySem.W.codeIn K cdahead "ahead" = true) (k_ahead : PySem.W.keepIn K (.ref aahead) = true)
    (a__law_leads : PySem.W.nsIn K mainGlobals "_law_leads" = some (some (.ref a_law_leads))) (l__law_leads : K.lookup a_law_leads = some ⟨oc_law_leads, od_law_leads, .func (PySem.W.fnOf "_law_leads" "_law_leads" (defArgs s_law_leads) (defBody s_law_leads) (defScope s_law_leads) .none kV_law_leads dc_law_leads pm_law_leads an_law_leads cd_law_leads ct_law_leads), sl_law_leads⟩) (c__law_leads : PySem.W.codeIn K cd_law_leads "_law_leads" = true) (k__law_leads : PySem.W.keepIn K (.ref a_law_leads) = true)
    (a__law_order : PySem.W.nsIn K mainGlobals "_law_order" = some (some (.ref a_law_order))) (l__law_order : K.lookup a_law_order = some ⟨oc_law_order, od_law_order, .func (PySem.W.fnOf "_law_order" "_law_order" (defArgs s_law_order) (defBody s_law_order) (defScope s_law_order) .none kV_law_order dc_law_order pm_law_order an_law_order cd_law_order ct_law_order), sl_law_order⟩) (c__law_order : PySem.W.codeIn K cd_law_order "_law_order" = true) (k__law_order : PySem.W.keepIn K (.ref a_law_order) = true)
    (a_law : PySem.W.nsIn K mainGlobals "law" = some (some (.ref alaw))) (l_law : K.lookup alaw = some ⟨oclaw, odlaw, .func (PySem.W.fnOf "law" "law" (defArgs slaw) (defBody slaw) (defScope slaw) .none kVlaw dclaw pmlaw anlaw cdlaw ctlaw), sllaw⟩) (c_law : PySem.W.codeIn K cdlaw "law" = true) (k_law : PySem.W.keepIn K (.ref alaw) = true)
    (z_abs : PySem.W.nsIn K mainGlobals "abs" = some none)
    (z_all : PySem.W.nsIn K mainGlobals "all" = some none)
    (z_bool : PySem.W.nsIn K mainGlobals "bool" = some none)
    (z_gcd : PySem.W.nsIn K mainGlobals "gcd" = some (some (.builtin "math.gcd")))
    (z_int : PySem.W.nsIn K mainGlobals "int" = some none)
    (z_isinstance : PySem.W.nsIn K mainGlobals "isinstance" = some none)
    (z_len : PySem.W.nsIn K mainGlobals "len" = some none)
    (z_list : PySem.W.nsIn K mainGlobals "list" = some none)
    (z_max : PySem.W.nsIn K mainGlobals "max" = some none)
    (z_min : PySem.W.nsIn K mainGlobals "min" = some none)
    (z_range : PySem.W.nsIn K mainGlobals "range" = some none)
    (z_repr : PySem.W.nsIn K mainGlobals "repr" = some none)
    (z_sorted : PySem.W.nsIn K mainGlobals "sorted" = some none)
    (z_str : PySem.W.nsIn K mainGlobals "str" = some none)
    (z_sum : PySem.W.nsIn K mainGlobals "sum" = some none)
    (z_tuple : PySem.W.nsIn K mainGlobals "tuple" = some none)
    (z_zip : PySem.W.nsIn K mainGlobals "zip" = some none)
    {ty_MARK_COUNT : Tok} (y_MARK_COUNT : PySem.W.nsIn K mainGlobals "MARK_COUNT" = some (some (.int 4 ty_MARK_COUNT)))
    {ty_MOST_BIDS : Tok} (y_MOST_BIDS : PySem.W.nsIn K mainGlobals "MOST_BIDS" = some (some (.int 130 ty_MOST_BIDS)))
    {ty_MOST_MARK : Tok} (y_MOST_MARK : PySem.W.nsIn K mainGlobals "MOST_MARK" = some (some (.int 100 ty_MOST_MARK)))
    (y_MOST_PRICE : ∃ u, mg "MOST_PRICE" = some u ∧ RelV (.int 1000000000) u)
    {ty_MOST_TERMS : Tok} (y_MOST_TERMS : PySem.W.nsIn K mainGlobals "MOST_TERMS" = some (some (.int 6 ty_MOST_TERMS)))
    {ty_MOST_WEIGHT : Tok} (y_MOST_WEIGHT : PySem.W.nsIn K mainGlobals "MOST_WEIGHT" = some (some (.int 1000 ty_MOST_WEIGHT)))
    {ay_RELATIVES : Addr} {dy_RELATIVES : Option Addr} {sy_RELATIVES : Array (Option Value)} {my_RELATIVES : Nat} {ty_RELATIVES uy_RELATIVES vy_RELATIVES : Tok} (y_RELATIVES : PySem.W.nsIn K mainGlobals "RELATIVES" = some (some (.ref ay_RELATIVES))) (ly_RELATIVES : K.lookup ay_RELATIVES = some ⟨.type "tuple", dy_RELATIVES, .seq #[.str "low" ty_RELATIVES, .str "range" uy_RELATIVES, .str "mean" vy_RELATIVES] my_RELATIVES, sy_RELATIVES⟩)
    : Txt K mg := by
  exact {
    ais_whole := ais_whole
    dis_whole := _
    Fis_whole := fun_mk (st := sis_whole) l_is_whole c_is_whole k_is_whole
    g_is_whole := PySem.W.mg_of X G a_is_whole
    k_is_whole := k_is_whole
    b_is_whole := (fun_mk (st := sis_whole) l_is_whole c_is_whole k_is_whole).binds (ps := ["thing", "low", "high"]) fun _ _ _ _ _ _ us hl => match us, hl with | [_, _, _], _ => rfl
    ais_bid := ais_bid
    dis_bid := _
    Fis_bid := fun_mk (st := sis_bid) l_is_bid c_is_bid k_is_bid
    g_is_bid := PySem.W.mg_of X G a_is_bid
    k_is_bid := k_is_bid
    b_is_bid := (fun_mk (st := sis_bid) l_is_bid c_is_bid k_is_bid).binds (ps := ["thing"]) fun _ _ _ _ _ _ us hl => match us, hl with | [_], _ => rfl
    ais_field := ais_field
    dis_field := _
    Fis_field := fun_mk (st := sis_field) l_is_field c_is_field k_is_field
    g_is_field := PySem.W.mg_of X G a_is_field
    k_is_field := k_is_field
    b_is_field := (fun_mk (st := sis_field) l_is_field c_is_field k_is_field).binds (ps := ["thing"]) fun _ _ _ _ _ _ us hl => match us, hl with | [_], _ => rfl
    aneed_field := aneed_field
    dneed_field := _
    Fneed_field := fun_mk (st := sneed_field) l_need_field c_need_field k_need_field
    g_need_field := PySem.W.mg_of X G a_need_field
    k_need_field := k_need_field
    b_need_field := (fun_mk (st := sneed_field) l_need_field c_need_field k_need_field).binds (ps := ["field"]) fun _ _ _ _ _ _ us hl => match us, hl with | [_], _ => rfl
    aneed_index := aneed_index
    dneed_index := _
    Fneed_index := fun_mk (st := sneed_index) l_need_index c_need_index k_need_index
    g_need_index := PySem.W.mg_of X G a_need_index
    k_need_index := k_need_index
    b_need_index := (fun_mk (st := sneed_index) l_need_index c_need_index k_need_index).binds (ps := ["field", "index"]) fun _ _ _ _ _ _ us hl => match us, hl with | [_, _], _ => rfl
    aprices_of := aprices_of
    dprices_of := _
    Fprices_of := fun_mk (st := sprices_of) l_prices_of c_prices_of k_prices_of
    g_prices_of := PySem.W.mg_of X G a_prices_of
    k_prices_of := k_prices_of
    b_prices_of := (fun_mk (st := sprices_of) l_prices_of c_prices_of k_prices_of).binds (ps := ["field"]) fun _ _ _ _ _ _ us hl => match us, hl with | [_], _ => rfl
    ais_term := ais_term
    dis_term := _
    Fis_term := fun_mk (st := sis_term) l_is_term c_is_term k_is_term
    g_is_term := PySem.W.mg_of X G a_is_term
    k_is_term := k_is_term
    b_is_term := (fun_mk (st := sis_term) l_is_term c_is_term k_is_term).binds (ps := ["thing"]) fun _ _ _ _ _ _ us hl => match us, hl with | [_], _ => rfl
    ais_formula := ais_formula
    dis_formula := _
    Fis_formula := fun_mk (st := sis_formula) l_is_formula c_is_formula k_is_formula
    g_is_formula := PySem.W.mg_of X G a_is_formula
    k_is_formula := k_is_formula
    b_is_formula := (fun_mk (st := sis_formula) l_is_formula c_is_formula k_is_formula).binds (ps := ["thing"]) fun _ _ _ _ _ _ us hl => match us, hl with | [_], _ => rfl
    aneed_formula := aneed_formula
    dneed_formula := _
    Fneed_formula := fun_mk (st := sneed_formula) l_need_formula c_need_formula k_need_formula
    g_need_formula := PySem.W.mg_of X G a_need_formula
    k_need_formula := k_need_formula
    b_need_formula := (fun_mk (st := sneed_formula) l_need_formula c_need_formula k_need_formula).binds (ps := ["formula"]) fun _ _ _ _ _ _ us hl => match us, hl with | [_], _ => rfl
    amark_weights := amark_weights
    dmark_weights := _
    Fmark_weights := fun_mk (st := smark_weights) l_mark_weights c_mark_weights k_mark_weights
    g_mark_weights := PySem.W.mg_of X G a_mark_weights
    k_mark_weights := k_mark_weights
    b_mark_weights := (fun_mk (st := smark_weights) l_mark_weights c_mark_weights k_mark_weights).binds (ps := ["formula"]) fun _ _ _ _ _ _ us hl => match us, hl with | [_], _ => rfl
    arelative_weights := arelative_weights
    drelative_weights := _
    Frelative_weights := fun_mk (st := srelative_weights) l_relative_weights c_relative_weights k_relative_weights
    g_relative_weights := PySem.W.mg_of X G a_relative_weights
    k_relative_weights := k_relative_weights
    b_relative_weights := (fun_mk (st := srelative_weights) l_relative_weights c_relative_weights k_relative_weights).binds (ps := ["formula"]) fun _ _ _ _ _ _ us hl => match us, hl with | [_], _ => rfl
    amarks_part := amarks_part
    dmarks_part := _
    Fmarks_part := fun_mk (st := smarks_part) l_marks_part c_marks_part k_marks_part
    g_marks_part := PySem.W.mg_of X G a_marks_part
    k_marks_part := k_marks_part
    b_marks_part := (fun_mk (st := smarks_part) l_marks_part c_marks_part k_marks_part).binds (ps := ["formula", "bid"]) fun _ _ _ _ _ _ us hl => match us, hl with | [_, _], _ => rfl
    ascore_of := ascore_of
    dscore_of := _
    Fscore_of := fun_mk (st := sscore_of) l_score_of c_score_of k_score_of
    g_score_of := PySem.W.mg_of X G a_score_of
    k_score_of := k_score_of
    b_score_of := (fun_mk (st := sscore_of) l_score_of c_score_of k_score_of).binds (ps := ["formula", "field", "index"]) fun _ _ _ _ _ _ us hl => match us, hl with | [_, _, _], _ => rfl
    ascores_of := ascores_of
    dscores_of := _
    Fscores_of := fun_mk (st := sscores_of) l_scores_of c_scores_of k_scores_of
    g_scores_of := PySem.W.mg_of X G a_scores_of
    k_scores_of := k_scores_of
    b_scores_of := (fun_mk (st := sscores_of) l_scores_of c_scores_of k_scores_of).binds (ps := ["formula", "field"]) fun _ _ _ _ _ _ us hl => match us, hl with | [_, _], _ => rfl
    a_law_begun := a_law_begun
    d_law_begun := _
    F_law_begun := fun_mk (st := s_law_begun) l__law_begun c__law_begun k__law_begun
    g__law_begun := PySem.W.mg_of X G a__law_begun
    k__law_begun := k__law_begun
    b__law_begun := (fun_mk (st := s_law_begun) l__law_begun c__law_begun k__law_begun).binds (ps := ["script"]) fun _ _ _ _ _ _ us hl => match us, hl with | [_], _ => rfl
    a_law_mixed := a_law_mixed
    d_law_mixed := _
    F_law_mixed := fun_mk (st := s_law_mixed) l__law_mixed c__law_mixed k__law_mixed
    g__law_mixed := PySem.W.mg_of X G a__law_mixed
    k__law_mixed := k__law_mixed
    b__law_mixed := (fun_mk (st := s_law_mixed) l__law_mixed c__law_mixed k__law_mixed).binds (ps := ["draw"]) fun _ _ _ _ _ _ us hl => match us, hl with | [_], _ => rfl
    a_law_take := a_law_take
    d_law_take := _
    F_law_take := fun_mk (st := s_law_take) l__law_take c__law_take k__law_take
    g__law_take := PySem.W.mg_of X G a__law_take
    k__law_take := k__law_take
    b__law_take := (fun_mk (st := s_law_take) l__law_take c__law_take k__law_take).binds (ps := ["draw", "many"]) fun _ _ _ _ _ _ us hl => match us, hl with | [_, _], _ => rfl
    a_law_pick := a_law_pick
    d_law_pick := _
    F_law_pick := fun_mk (st := s_law_pick) l__law_pick c__law_pick k__law_pick
    g__law_pick := PySem.W.mg_of X G a__law_pick
    k__law_pick := k__law_pick
    b__law_pick := (fun_mk (st := s_law_pick) l__law_pick c__law_pick k__law_pick).binds (ps := ["draw", "some"]) fun _ _ _ _ _ _ us hl => match us, hl with | [_, _], _ => rfl
    a_law_price := a_law_price
    d_law_price := _
    F_law_price := fun_mk (st := s_law_price) l__law_price c__law_price k__law_price
    g__law_price := PySem.W.mg_of X G a__law_price
    k__law_price := k__law_price
    b__law_price := (fun_mk (st := s_law_price) l__law_price c__law_price k__law_price).binds (ps := ["draw"]) fun _ _ _ _ _ _ us hl => match us, hl with | [_], _ => rfl
    a_law_bid := a_law_bid
    d_law_bid := _
    F_law_bid := fun_mk (st := s_law_bid) l__law_bid c__law_bid k__law_bid
    g__law_bid := PySem.W.mg_of X G a__law_bid
    k__law_bid := k__law_bid
    b__law_bid := (fun_mk (st := s_law_bid) l__law_bid c__law_bid k__law_bid).binds (ps := ["draw"]) fun _ _ _ _ _ _ us hl => match us, hl with | [_], _ => rfl
    a_law_field := a_law_field
    d_law_field := _
    F_law_field := fun_mk (st := s_law_field) l__law_field c__law_field k__law_field
    g__law_field := PySem.W.mg_of X G a__law_field
    k__law_field := k__law_field
    b__law_field := (fun_mk (st := s_law_field) l__law_field c__law_field k__law_field).binds (ps := ["draw", "many"]) fun _ _ _ _ _ _ us hl => match us, hl with | [_, _], _ => rfl
    a_law_formula := a_law_formula
    d_law_formula := _
    F_law_formula := fun_mk (st := s_law_formula) l__law_formula c__law_formula k__law_formula
    g__law_formula := PySem.W.mg_of X G a__law_formula
    k__law_formula := k__law_formula
    b__law_formula := (fun_mk (st := s_law_formula) l__law_formula c__law_formula k__law_formula).binds (ps := ["draw"]) fun _ _ _ _ _ _ us hl => match us, hl with | [_], _ => rfl
    a_law_over := a_law_over
    d_law_over := _
    F_law_over := fun_mk (st := s_law_over) l__law_over c__law_over k__law_over
    g__law_over := PySem.W.mg_of X G a__law_over
    k__law_over := k__law_over
    b__law_over := (fun_mk (st := s_law_over) l__law_over c__law_over k__law_over).binds (ps := ["formula", "field", "index"]) fun _ _ _ _ _ _ us hl => match us, hl with | [_, _, _], _ => rfl
    aleads := aleads
    dleads := _
    Fleads := fun_mk (st := sleads) l_leads c_leads k_leads
    g_leads := PySem.W.mg_of X G a_leads
    k_leads := k_leads
    b_leads := (fun_mk (st := sleads) l_leads c_leads k_leads).binds (ps := ["field", "found", "first", "second"]) fun _ _ _ _ _ _ us hl => match us, hl with | [_, _, _, _], _ => rfl
    aranking_of := aranking_of
    dranking_of := _
    Franking_of := fun_mk (st := sranking_of) l_ranking_of c_ranking_of k_ranking_of
    g_ranking_of := PySem.W.mg_of X G a_ranking_of
    k_ranking_of := k_ranking_of
    b_ranking_of := (fun_mk (st := sranking_of) l_ranking_of c_ranking_of k_ranking_of).binds (ps := ["formula", "field"]) fun _ _ _ _ _ _ us hl => match us, hl with | [_, _], _ => rfl
    aranking := aranking
    dranking := _
    Franking := fun_mk (st := sranking) l_ranking c_ranking k_ranking
    g_ranking := PySem.W.mg_of X G a_ranking
    k_ranking := k_ranking
    b_ranking := (fun_mk (st := sranking) l_ranking c_ranking k_ranking).binds (ps := ["formula", "field"]) fun _ _ _ _ _ _ us hl => match us, hl with | [_, _], _ => rfl
    bk_ranking_field_formula := kb_fo fun s a b => .of_eq rfl
    aahead := aahead
    dahead := _
    Fahead := fun_mk (st := sahead) l_ahead c_ahead k_ahead
    g_ahead := PySem.W.mg_of X G a_ahead
    k_ahead := k_ahead
    b_ahead := (fun_mk (st := sahead) l_ahead c_ahead k_ahead).binds (ps := ["formula", "field", "first", "second"]) fun _ _ _ _ _ _ us hl => match us, hl with | [_, _, _, _], _ => rfl
    bk_ahead_second_first_field_formula := kb_sffo fun s a b c e => .of_eq rfl
    a_law_leads := a_law_leads
    d_law_leads := _
    F_law_leads := fun_mk (st := s_law_leads) l__law_leads c__law_leads k__law_leads
    g__law_leads := PySem.W.mg_of X G a__law_leads
    k__law_leads := k__law_leads
    b__law_leads := (fun_mk (st := s_law_leads) l__law_leads c__law_leads k__law_leads).binds (ps := ["field", "found", "first", "second"]) fun _ _ _ _ _ _ us hl => match us, hl with | [_, _, _, _], _ => rfl
    a_law_order := a_law_order
    d_law_order := _
    F_law_order := fun_mk (st := s_law_order) l__law_order c__law_order k__law_order
    g__law_order := PySem.W.mg_of X G a__law_order
    k__law_order := k__law_order
    b__law_order := (fun_mk (st := s_law_order) l__law_order c__law_order k__law_order).binds (ps := ["formula", "field"]) fun _ _ _ _ _ _ us hl => match us, hl with | [_, _], _ => rfl
    alaw := alaw
    dlaw := _
    Flaw := fun_mk (st := slaw) l_law c_law k_law
    g_law := PySem.W.mg_of X G a_law
    k_law := k_law
    b_law := (fun_mk (st := slaw) l_law c_law k_law).binds (ps := ["script"]) fun _ _ _ _ _ _ us hl => match us, hl with | [_], _ => rfl
    n_abs := PySem.W.mg_none_of X G z_abs
    n_all := PySem.W.mg_none_of X G z_all
    n_bool := PySem.W.mg_none_of X G z_bool
    n_gcd := PySem.W.mg_of X G z_gcd
    n_int := PySem.W.mg_none_of X G z_int
    n_isinstance := PySem.W.mg_none_of X G z_isinstance
    n_len := PySem.W.mg_none_of X G z_len
    n_list := PySem.W.mg_none_of X G z_list
    n_max := PySem.W.mg_none_of X G z_max
    n_min := PySem.W.mg_none_of X G z_min
    n_range := PySem.W.mg_none_of X G z_range
    n_repr := PySem.W.mg_none_of X G z_repr
    n_sorted := PySem.W.mg_none_of X G z_sorted
    n_str := PySem.W.mg_none_of X G z_str
    n_sum := PySem.W.mg_none_of X G z_sum
    n_tuple := PySem.W.mg_none_of X G z_tuple
    n_zip := PySem.W.mg_none_of X G z_zip
    c_MARK_COUNT := ⟨_, PySem.W.mg_of X G y_MARK_COUNT, _, rfl⟩
    c_MOST_BIDS := ⟨_, PySem.W.mg_of X G y_MOST_BIDS, _, rfl⟩
    c_MOST_MARK := ⟨_, PySem.W.mg_of X G y_MOST_MARK, _, rfl⟩
    c_MOST_PRICE := y_MOST_PRICE
    c_MOST_TERMS := ⟨_, PySem.W.mg_of X G y_MOST_TERMS, _, rfl⟩
    c_MOST_WEIGHT := ⟨_, PySem.W.mg_of X G y_MOST_WEIGHT, _, rfl⟩
    aRELATIVES := ay_RELATIVES
    c_RELATIVES := ⟨_, PySem.W.mg_of X G y_RELATIVES, rfl⟩
    e_RELATIVES := fun H => .tup (.inr ⟨_, _, _, ly_RELATIVES, rfl, rfl, (show 3 ≤ sizeLine by decide), .cons (show RelV (.str "low") _ from ⟨_, rfl⟩) (.cons (show RelV (.str "range") _ from ⟨_, rfl⟩) (.cons (show RelV (.str "mean") _ from ⟨_, rfl⟩) .nil))⟩) (.cons (.str _) (.cons (.str _) (.cons (.str _) .nil)))
  }
theorem most_price {q : Program} {lv : List (Str × PySem.W.WData)} {mg : Str → Option Value} {h : Heap} (X : PySem.W.XL q lv mg h) (hm : ((("MOST_PRICE" : Str), PySem.W.WData.int 1000000000) : Str × PySem.W.WData) ∈ lv) : ∃ u, mg "MOST_PRICE" = some u ∧ RelV (.int 1000000000) u := by
  obtain ⟨v, e, r⟩ := X.2.val _ hm
  refine ⟨v, e, ?_⟩
  cases r with
  | int i t => exact ⟨t, rfl⟩
theorem law_end {P : Program} {w : World} {K : PySem.W.Frag} {mg : Str → Option Value} {fa : Addr} (T : Txt K mg) (hm : mg "law" = some (.ref fa)) :
    ∃ fd : FuncData, (∀ (s : Shared) (u : Value), BindsTo s fd ⟨[u], []⟩ [("script", u)]) ∧ LawAt P w K mg "law" slaw fa fd 10 63 "script" := by
  have e := T.g_law.symm.trans hm
  cases e
  refine ⟨T.dlaw, fun s u => ?_, law_ok T⟩
  obtain ⟨oc, od, kV, doc, pm, an, cdv, ct, osl, e, _, _⟩ := T.Flaw.ex
  rw [e]
  exact .of_eq rfl
end Sc

open PySem PySem.W PyProof.Rows in
set_option maxRecDepth 100000 in
set_option maxHeartbeats 0 in
theorem PySem.Challenge.cw_protestproof_k70_whole_rankings_and_lowe_holds : PySem.Challenge.rw_protestproof_k70_whole_rankings_and_lowe.Holds := by
  w_on; o_law; k_head; (case hw => w_witness2)
  k_fill
  refine Fw.walk_at (l := PySem.Challenge.rw_protestproof_k70_whole_rankings_and_lowe) (n := 63) (k := 10) (st := Sc.slaw) (p := "script") rfl (by decide) rfl ⟨rfl, by decide, by decide⟩ (fun w h Y => PySem.W.kIn_of Y) ?F
  case F =>
    intro w mg fa h KX G X hmg
    have mp := Sc.most_price X (by simp)
    refine' Sc.law_end (Sc.txt_mk KX G ?a_is_whole ?l_is_whole ?c_is_whole ?k_is_whole ?a_is_bid ?l_is_bid ?c_is_bid ?k_is_bid ?a_is_field ?l_is_field ?c_is_field ?k_is_field ?a_need_field ?l_need_field ?c_need_field ?k_need_field ?a_need_index ?l_need_index ?c_need_index ?k_need_index ?a_prices_of ?l_prices_of ?c_prices_of ?k_prices_of ?a_is_term ?l_is_term ?c_is_term ?k_is_term ?a_is_formula ?l_is_formula ?c_is_formula ?k_is_formula ?a_need_formula ?l_need_formula ?c_need_formula ?k_need_formula ?a_mark_weights ?l_mark_weights ?c_mark_weights ?k_mark_weights ?a_relative_weights ?l_relative_weights ?c_relative_weights ?k_relative_weights ?a_marks_part ?l_marks_part ?c_marks_part ?k_marks_part ?a_score_of ?l_score_of ?c_score_of ?k_score_of ?a_scores_of ?l_scores_of ?c_scores_of ?k_scores_of ?a__law_begun ?l__law_begun ?c__law_begun ?k__law_begun ?a__law_mixed ?l__law_mixed ?c__law_mixed ?k__law_mixed ?a__law_take ?l__law_take ?c__law_take ?k__law_take ?a__law_pick ?l__law_pick ?c__law_pick ?k__law_pick ?a__law_price ?l__law_price ?c__law_price ?k__law_price ?a__law_bid ?l__law_bid ?c__law_bid ?k__law_bid ?a__law_field ?l__law_field ?c__law_field ?k__law_field ?a__law_formula ?l__law_formula ?c__law_formula ?k__law_formula ?a__law_over ?l__law_over ?c__law_over ?k__law_over ?a_leads ?l_leads ?c_leads ?k_leads ?a_ranking_of ?l_ranking_of ?c_ranking_of ?k_ranking_of ?a_ranking ?l_ranking ?c_ranking ?k_ranking ?a_ahead ?l_ahead ?c_ahead ?k_ahead ?a__law_leads ?l__law_leads ?c__law_leads ?k__law_leads ?a__law_order ?l__law_order ?c__law_order ?k__law_order ?a_law ?l_law ?c_law ?k_law ?z_abs ?z_all ?z_bool ?z_gcd ?z_int ?z_isinstance ?z_len ?z_list ?z_max ?z_min ?z_range ?z_repr ?z_sorted ?z_str ?z_sum ?z_tuple ?z_zip ?y_MARK_COUNT ?y_MOST_BIDS ?y_MOST_MARK mp ?y_MOST_TERMS ?y_MOST_WEIGHT ?y_RELATIVES ?ly_RELATIVES) hmg
    (case a_is_whole => k_is)
    (case l_is_whole => k_is)
    (case c_is_whole => k_is)
    (case k_is_whole => k_is)
    (case a_is_bid => k_is)
    (case l_is_bid => k_is)
    (case c_is_bid => k_is)
    (case k_is_bid => k_is)
    (case a_is_field => k_is)
    (case l_is_field => k_is)
    (case c_is_field => k_is)
    (case k_is_field => k_is)
    (case a_need_field => k_is)
    (case l_need_field => k_is)
    (case c_need_field => k_is)
    (case k_need_field => k_is)
    (case a_need_index => k_is)
    (case l_need_index => k_is)
    (case c_need_index => k_is)
    (case k_need_index => k_is)
    (case a_prices_of => k_is)
    (case l_prices_of => k_is)
    (case c_prices_of => k_is)
    (case k_prices_of => k_is)
    (case a_is_term => k_is)
    (case l_is_term => k_is)
    (case c_is_term => k_is)
    (case k_is_term => k_is)
    (case a_is_formula => k_is)
    (case l_is_formula => k_is)
    (case c_is_formula => k_is)
    (case k_is_formula => k_is)
    (case a_need_formula => k_is)
    (case l_need_formula => k_is)
    (case c_need_formula => k_is)
    (case k_need_formula => k_is)
    (case a_mark_weights => k_is)
    (case l_mark_weights => k_is)
    (case c_mark_weights => k_is)
    (case k_mark_weights => k_is)
    (case a_relative_weights => k_is)
    (case l_relative_weights => k_is)
    (case c_relative_weights => k_is)
    (case k_relative_weights => k_is)
    (case a_marks_part => k_is)
    (case l_marks_part => k_is)
    (case c_marks_part => k_is)
    (case k_marks_part => k_is)
    (case a_score_of => k_is)
    (case l_score_of => k_is)
    (case c_score_of => k_is)
    (case k_score_of => k_is)
    (case a_scores_of => k_is)
    (case l_scores_of => k_is)
    (case c_scores_of => k_is)
    (case k_scores_of => k_is)
    (case a__law_begun => k_is)
    (case l__law_begun => k_is)
    (case c__law_begun => k_is)
    (case k__law_begun => k_is)
    (case a__law_mixed => k_is)
    (case l__law_mixed => k_is)
    (case c__law_mixed => k_is)
    (case k__law_mixed => k_is)
    (case a__law_take => k_is)
    (case l__law_take => k_is)
    (case c__law_take => k_is)
    (case k__law_take => k_is)
    (case a__law_pick => k_is)
    (case l__law_pick => k_is)
    (case c__law_pick => k_is)
    (case k__law_pick => k_is)
    (case a__law_price => k_is)
    (case l__law_price => k_is)
    (case c__law_price => k_is)
    (case k__law_price => k_is)
    (case a__law_bid => k_is)
    (case l__law_bid => k_is)
    (case c__law_bid => k_is)
    (case k__law_bid => k_is)
    (case a__law_field => k_is)
    (case l__law_field => k_is)
    (case c__law_field => k_is)
    (case k__law_field => k_is)
    (case a__law_formula => k_is)
    (case l__law_formula => k_is)
    (case c__law_formula => k_is)
    (case k__law_formula => k_is)
    (case a__law_over => k_is)
    (case l__law_over => k_is)
    (case c__law_over => k_is)
    (case k__law_over => k_is)
    (case a_leads => k_is)
    (case l_leads => k_is)
    (case c_leads => k_is)
    (case k_leads => k_is)
    (case a_ranking_of => k_is)
    (case l_ranking_of => k_is)
    (case c_ranking_of => k_is)
    (case k_ranking_of => k_is)
    (case a_ranking => k_is)
    (case l_ranking => k_is)
    (case c_ranking => k_is)
    (case k_ranking => k_is)
    (case a_ahead => k_is)
    (case l_ahead => k_is)
    (case c_ahead => k_is)
    (case k_ahead => k_is)
    (case a__law_leads => k_is)
    (case l__law_leads => k_is)
    (case c__law_leads => k_is)
    (case k__law_leads => k_is)
    (case a__law_order => k_is)
    (case l__law_order => k_is)
    (case c__law_order => k_is)
    (case k__law_order => k_is)
    (case a_law => k_is)
    (case l_law => k_is)
    (case c_law => k_is)
    (case k_law => k_is)
    (case z_abs => k_is)
    (case z_all => k_is)
    (case z_bool => k_is)
    (case z_gcd => k_is)
    (case z_int => k_is)
    (case z_isinstance => k_is)
    (case z_len => k_is)
    (case z_list => k_is)
    (case z_max => k_is)
    (case z_min => k_is)
    (case z_range => k_is)
    (case z_repr => k_is)
    (case z_sorted => k_is)
    (case z_str => k_is)
    (case z_sum => k_is)
    (case z_tuple => k_is)
    (case z_zip => k_is)
    (case y_MARK_COUNT => k_is)
    (case y_MOST_BIDS => k_is)
    (case y_MOST_MARK => k_is)
    (case y_MOST_TERMS => k_is)
    (case y_MOST_WEIGHT => k_is)
    (case y_RELATIVES => k_is)
    (case ly_RELATIVES => k_is)
#print axioms PySem.Challenge.cw_protestproof_k70_whole_rankings_and_lowe_holds

