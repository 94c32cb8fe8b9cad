import PyProof.Rows.All
import Wide.All
import OpenK.AllK
import Wide.FinOn
import HandS.ForMost
import HandS.IsInst
import HandS.Gcd
import HandS.Zip
import HandS.Style
import HandS.Codes
import HandS.Wide
import HandS.Walk
import HandS.SortRule
import HandS.SortOrd
import HandS.Conv
import HandS.SortInts
import HandS.DictComp
import HandS.Comp
import HandS.More
import HandS.TupAny
import HandS.TryOnly
import HandS.RaiseMore
import HandS.Star
import HandS.Iter
import HandS.WordsExc
import HandS.ExcIs
import HandS.ExcValue
import HandS.Flow
import HandS.TupMul
import KE.GoesNew
import PySem.Challenge.RW_protestproof_k60_alternatives
set_option Elab.async false
set_option linter.all false
set_option maxRecDepth 100000
set_option maxHeartbeats 4000000
/-! The frame: immutable data as PyData, evaluation judgements that speak of data alone. -/
namespace Fw
open PySem L2

/-! ### data that stays -/
section
variable {K : PySem.W.Frag} {H H' : Hp}
theorem rd_mono {a : Addr} {u : HO} (s : Same H H') (h : Rd H a u) : Rd H' a u := by
  rcases h with h | ⟨o, h⟩
  · exact .inl (s _ _ h)
  · exact .inr ⟨o, s _ _ h⟩
theorem sql_mono {a : Addr} {xs : List V} (s : Same H H') (h : SqL K H a xs) : SqL K H' a xs := by
  rcases h with h | h
  · exact .inl (rd_mono s h)
  · exact .inr h
theorem sqt_mono {a : Addr} {xs : List V} (s : Same H H') (h : SqT K H a xs) : SqT K H' a xs := by
  rcases h with h | h
  · exact .inl (rd_mono s h)
  · exact .inr h
mutual
theorem dp_mono (s : Same H H') : ∀ (d : PyData) (v : V), Dp K H v d → Dp K H' v d
  | .none, _, h => by cases h; exact .non
  | .bool b, _, h => by cases h; exact .bl b
  | .int i, _, h => by cases h; exact .int i
  | .str x, _, h => by cases h; exact .str x
  | .list ds, _, h => by
    cases h with
    | lst hs ha => exact .lst (sql_mono s hs) (dpa_mono s ds _ ha)
  | .tuple ds, _, h => by
    cases h with
    | tup hs ha => exact .tup (sqt_mono s hs) (dpa_mono s ds _ ha)
  | .dict _, _, h => by cases h
theorem dpa_mono (s : Same H H') : ∀ (ds : List PyData) (vs : List V), DpAll K H vs ds → DpAll K H' vs ds
  | [], _, h => by cases h; exact .nil
  | d :: ds, _, h => by
    cases h with
    | cons h1 h2 => exact .cons (dp_mono s d _ h1) (dpa_mono s ds _ h2)
end
theorem dpa_len : ∀ {ds : List PyData} {vs : List V}, DpAll K H vs ds → vs.length = ds.length
  | [], _, h => by cases h; rfl
  | _ :: _, _, h => by
    cases h with
    | cons _ h2 => rw [List.length_cons, List.length_cons, dpa_len h2]
theorem dpa_get : ∀ {ds : List PyData} {vs : List V} {i : Nat} {v : V}, DpAll K H vs ds → vs[i]? = some v → ∃ d, ds[i]? = some d ∧ Dp K H v d
  | [], _, i, v, h, e => by cases h; simp at e
  | d :: ds, _, 0, v, h, e => by
    cases h with
    | cons h1 h2 => simp at e; subst e; exact ⟨d, rfl, h1⟩
  | d :: ds, _, i + 1, v, h, e => by
    cases h with
    | cons h1 h2 =>
      obtain ⟨d', e', h'⟩ := dpa_get (i := i) h2 (by simpa using e)
      exact ⟨d', by simpa using e', h'⟩
theorem dpa_get' : ∀ {ds : List PyData} {vs : List V} {i : Nat} {d : PyData}, DpAll K H vs ds → ds[i]? = some d → ∃ v, vs[i]? = some v ∧ Dp K H v d
  | [], _, i, v, h, e => by simp at e
  | d :: ds, _, 0, v, h, e => by
    cases h with
    | cons h1 h2 => simp at e; subst e; exact ⟨_, rfl, h1⟩
  | d :: ds, _, i + 1, v, h, e => by
    cases h with
    | cons h1 h2 =>
      obtain ⟨d', e', h'⟩ := dpa_get' (i := i) h2 (by simpa using e)
      exact ⟨d', by simpa using e', h'⟩
theorem dpa_app : ∀ {ds es : List PyData} {vs ws : List V}, DpAll K H vs ds → DpAll K H ws es → DpAll K H (vs ++ ws) (ds ++ es)
  | [], _, _, _, h, g => by cases h; exact g
  | _ :: _, _, _, _, h, g => by
    cases h with
    | cons h1 h2 => exact .cons h1 (dpa_app h2 g)
theorem dpa_snoc {ds : List PyData} {vs : List V} {d : PyData} {v : V} (h : DpAll K H vs ds) (g : Dp K H v d) : DpAll K H (vs ++ [v]) (ds ++ [d]) := dpa_app h (.cons g .nil)
theorem dpa_rev : ∀ {ds : List PyData} {vs : List V}, DpAll K H vs ds → DpAll K H vs.reverse ds.reverse
  | [], _, h => by cases h; exact .nil
  | _ :: _, _, h => by
    cases h with
    | cons h1 h2 =>
      rw [List.reverse_cons, List.reverse_cons]
      exact dpa_snoc (dpa_rev h2) h1
theorem dpa_ints : ∀ {ns : List Int} {vs : List V}, DpAll K H vs (ns.map PyData.int) → vs = ns.map V.int
  | [], _, h => by cases h; rfl
  | n :: ns, _, h => by
    rw [List.map_cons] at h
    cases h with
    | cons h1 h2 =>
      cases h1
      rw [List.map_cons, dpa_ints h2]
theorem dpa_of_ints (K : PySem.W.Frag) (H : Hp) : ∀ ns : List Int, DpAll K H (ns.map V.int) (ns.map PyData.int)
  | [] => .nil
  | n :: ns => .cons (.int n) (dpa_of_ints K H ns)
theorem dpa_bools : ∀ {bs : List Bool} {vs : List V}, DpAll K H vs (bs.map PyData.bool) → vs = bs.map V.bl
  | [], _, h => by cases h; rfl
  | n :: ns, _, h => by
    rw [List.map_cons] at h
    cases h with
    | cons h1 h2 =>
      cases h1
      rw [List.map_cons, dpa_bools h2]
theorem dpa_strs : ∀ {xs : List Str} {vs : List V}, DpAll K H vs (xs.map PyData.str) → vs = xs.map V.str
  | [], _, h => by cases h; rfl
  | n :: ns, _, h => by
    rw [List.map_cons] at h
    cases h with
    | cons h1 h2 =>
      cases h1
      rw [List.map_cons, dpa_strs h2]
theorem dpa_of_strs (K : PySem.W.Frag) (H : Hp) : ∀ ns : List Str, DpAll K H (ns.map V.str) (ns.map PyData.str)
  | [] => .nil
  | n :: ns => .cons (.str n) (dpa_of_strs K H ns)
end

/-! ### the heap without what may change -/
def cut (ms : List Addr) (H : Hp) : Hp := fun a => if a ∈ ms then none else H a
theorem cut_out {ms : List Addr} {H : Hp} {a : Addr} (h : a ∉ ms) : cut ms H a = H a := by unfold cut; rw [if_neg h]
theorem cut_in {ms : List Addr} {H : Hp} {a : Addr} (h : a ∈ ms) : cut ms H a = none := by unfold cut; rw [if_pos h]
theorem cut_le {ms : List Addr} {H : Hp} : Same (cut ms H) H := fun a o e => by
  by_cases h : a ∈ ms
  · rw [cut_in h] at e; cases e
  · rwa [cut_out h] at e
theorem cut_cons {ms : List Addr} {H : Hp} {l : Addr} : Same (cut (l :: ms) H) (cut ms H) := fun a o e => by
  by_cases h : a ∈ l :: ms
  · rw [cut_in h] at e; cases e
  · rw [cut_out h] at e
    rw [cut_out fun z => h (List.mem_cons_of_mem _ z)]
    exact e
/-- what is outside of ws stays -/
def XW (ws : List Addr) (H H' : Hp) : Prop := ∀ a o, a ∉ ws → H a = some o → H' a = some o
theorem XW.refl {ws : List Addr} (H : Hp) : XW ws H H := fun _ _ _ e => e
theorem XW.trans {ws : List Addr} {H H1 H2 : Hp} (a : XW ws H H1) (b : XW ws H1 H2) : XW ws H H2 := fun x o n e => b x o n (a x o n e)
theorem XW.of_same {ws : List Addr} {H H' : Hp} (s : Same H H') : XW ws H H' := fun a o _ e => s a o e
theorem XW.cut {ws ms : List Addr} {H H' : Hp} (x : XW ws H H') (sub : ∀ a ∈ ws, a ∈ ms) : Same (cut ms H) (cut ms H') := fun a o e => by
  by_cases h : a ∈ ms
  · rw [cut_in h] at e; cases e
  · rw [cut_out h] at e ⊢
    exact x a o (fun z => h (sub a z)) e
/-- a new object may be put where nothing stood -/
theorem XW.put {ws : List Addr} {H H' : Hp} {p : Addr} {o : HO} (x : XW ws H H') (h : H p = none) : XW ws H (upd H' p o) := fun a u n e => by
  rw [upd_ne (ne_of_none e h)]
  exact x a u n e
theorem XW.same {H H' : Hp} (x : XW [] H H') : Same H H' := fun a o e => x a o (by simp) e
def Live (ms : List Addr) (H : Hp) : Prop := ∀ a ∈ ms, ∃ o, H a = some o
theorem Live.fresh {ms : List Addr} {H : Hp} {p : Addr} (l : Live ms H) (h : H p = none) : p ∉ ms := fun z => by
  obtain ⟨o, e⟩ := l p z
  rw [e] at h; cases h
theorem Live.same {ms : List Addr} {H H' : Hp} (l : Live ms H) (s : Same H H') : Live ms H' := fun a z => by
  obtain ⟨o, e⟩ := l a z
  exact ⟨o, s _ _ e⟩
theorem Live.put {ms : List Addr} {H : Hp} {p : Addr} {o : HO} (l : Live ms H) : Live (p :: ms) (upd H p o) := fun a z => by
  by_cases h : a = p
  · subst h; exact ⟨o, upd_same⟩
  · rw [upd_ne h]
    rcases List.mem_cons.mp z with e | e
    · exact absurd e h
    · exact l a e
theorem Live.upd {ms : List Addr} {H : Hp} {p : Addr} {o : HO} (l : Live ms H) : Live ms (upd H p o) := fun a z => by
  by_cases h : a = p
  · subst h; exact ⟨o, upd_same⟩
  · rw [upd_ne h]; exact l a z
/-- data over the heap without ms stays where an object at a place of ms, or at a new place, is put -/
theorem cut_put {ms : List Addr} {H : Hp} {p : Addr} {o : HO} (h : p ∈ ms ∨ H p = none) : Same (cut ms H) (cut ms (upd H p o)) := fun a u e => by
  by_cases hm : a ∈ ms
  · rw [cut_in hm] at e; cases e
  · rw [cut_out hm] at e ⊢
    rw [upd_ne]
    · exact e
    · intro z
      subst z
      rcases h with h | h
      · exact hm h
      · rw [h] at e; cases e
/-- the same where p is left out besides -/
theorem cut_drop {ms : List Addr} {H : Hp} {p : Addr} {o : HO} : Same (cut (p :: ms) H) (cut (p :: ms) (upd H p o)) := cut_put (.inl List.mem_cons_self)

/-! ### slots -/
inductive Sl where
  | emp | dat (d : PyData) | raw (v : V)
def Sl.ok (K : PySem.W.Frag) (Hc : Hp) : Sl → V → Prop
  | .emp, _ => False
  | .dat d, v => Dp K Hc v d
  | .raw w, v => v = w
theorem Sl.ok.mono {K : PySem.W.Frag} {H H' : Hp} {s : Sl} {v : V} (h : s.ok K H v) (m : Same H H') : s.ok K H' v := by
  cases s with
  | emp => exact h
  | dat d => exact dp_mono m d v h
  | raw w => exact h
def SlO (K : PySem.W.Frag) (Hc : Hp) : Sl → Option V → Prop
  | .emp, _ => True
  | s, some v => s.ok K Hc v
  | _, none => False
theorem SlO.mono {K : PySem.W.Frag} {H H' : Hp} {s : Sl} {v : Option V} (h : SlO K H s v) (m : Same H H') : SlO K H' s v := by
  cases s <;> cases v <;> first
    | trivial
    | exact Sl.ok.mono (s := .dat _) h m
    | exact Sl.ok.mono (s := .raw _) h m
    | exact h
theorem SlO.of {K : PySem.W.Frag} {H : Hp} {s : Sl} {v : V} (h : s.ok K H v) : SlO K H s (some v) := by
  cases s <;> first | trivial | exact h
theorem SlO.back {K : PySem.W.Frag} {H : Hp} {s : Sl} {o : Option V} (h : SlO K H s o) (n : s ≠ .emp) : ∃ v, o = some v ∧ s.ok K H v := by
  cases s with
  | emp => exact absurd rfl n
  | dat d =>
    cases o with
    | none => exact False.elim h
    | some v => exact ⟨v, rfl, h⟩
  | raw w =>
    cases o with
    | none => exact False.elim h
    | some v => exact ⟨v, rfl, h⟩
/-- the slots hold what is told of them -/
inductive EnvOk (K : PySem.W.Frag) (Hc : Hp) : List Sl → St → Prop
  | nil : EnvOk K Hc [] []
  | cons {s : Sl} {o : Option V} {ρ : List Sl} {σ : St} : SlO K Hc s o → EnvOk K Hc ρ σ → EnvOk K Hc (s :: ρ) (o :: σ)
section
variable {K : PySem.W.Frag} {H H' : Hp}
theorem EnvOk.mono (m : Same H H') : ∀ {ρ : List Sl} {σ : St}, EnvOk K H ρ σ → EnvOk K H' ρ σ
  | _, _, .nil => .nil
  | _, _, .cons h t => .cons (h.mono m) (EnvOk.mono m t)
theorem EnvOk.get : ∀ {ρ : List Sl} {σ : St} {i : Nat} {s : Sl}, EnvOk K H ρ σ → ρ[i]? = some s → s ≠ .emp → ∃ v, σ[i]? = some (some v) ∧ s.ok K H v
  | _, _, _, _, .nil, e, _ => by simp at e
  | _, _, 0, s, .cons (o := o) h _, e, n => by
    have e' := Option.some.inj e
    rw [e'] at h
    obtain ⟨v, rfl, h2⟩ := h.back n
    exact ⟨v, rfl, h2⟩
  | _, _, i + 1, s, .cons _ t, e, n => by
    obtain ⟨v, h1, h2⟩ := EnvOk.get (i := i) t (by simpa using e) n
    exact ⟨v, by simpa using h1, h2⟩
theorem EnvOk.set {s : Sl} {o : Option V} (h : SlO K H s o) : ∀ {ρ : List Sl} {σ : St} (i : Nat), EnvOk K H ρ σ → EnvOk K H (ρ.set i s) (σ.set i o)
  | _, _, _, .nil => .nil
  | _, _, 0, .cons _ t => .cons h t
  | _, _, i + 1, .cons g t => .cons g (EnvOk.set h i t)
theorem EnvOk.emp : ∀ (n : Nat), EnvOk K H (List.replicate n .emp) (List.replicate n none)
  | 0 => .nil
  | n + 1 => .cons trivial (EnvOk.emp n)
theorem EnvOk.app : ∀ {ρ ρ' : List Sl} {σ σ' : St}, EnvOk K H ρ σ → EnvOk K H ρ' σ' → EnvOk K H (ρ ++ ρ') (σ ++ σ')
  | _, _, _, _, .nil, g => g
  | _, _, _, _, .cons h t, g => .cons h (EnvOk.app t g)
end
/-- less is told -/
inductive Le : List Sl → List Sl → Prop
  | nil : Le [] []
  | same {s : Sl} {a b : List Sl} : Le a b → Le (s :: a) (s :: b)
  | emp {s : Sl} {a b : List Sl} : Le a b → Le (.emp :: a) (s :: b)
theorem Le.refl : ∀ a : List Sl, Le a a
  | [] => .nil
  | _ :: a => .same (Le.refl a)
theorem EnvOk.le {K : PySem.W.Frag} {H : Hp} : ∀ {a b : List Sl} {σ : St}, Le a b → EnvOk K H b σ → EnvOk K H a σ
  | _, _, _, .nil, .nil => .nil
  | _, _, _, .same l, .cons h t => .cons h (EnvOk.le l t)
  | _, _, _, .emp l, .cons _ t => .cons trivial (EnvOk.le l t)
def wipeR (ρ : List Sl) : List Nat → List Sl
  | [] => ρ
  | v :: vs => (wipeR ρ vs).set v .emp
theorem EnvOk.wipe {K : PySem.W.Frag} {H : Hp} {ρ : List Sl} {σ : St} (h : EnvOk K H ρ σ) : ∀ vs : List Nat, EnvOk K H (wipeR ρ vs) (wipe σ vs)
  | [] => h
  | v :: vs => EnvOk.set (s := .emp) trivial v (EnvOk.wipe h vs)
inductive OkAll (K : PySem.W.Frag) (Hc : Hp) : List Sl → List V → Prop
  | nil : OkAll K Hc [] []
  | cons {s : Sl} {v : V} {ss : List Sl} {vs : List V} : s.ok K Hc v → OkAll K Hc ss vs → OkAll K Hc (s :: ss) (v :: vs)
theorem OkAll.mono {K : PySem.W.Frag} {H H' : Hp} (m : Same H H') : ∀ {ss : List Sl} {vs : List V}, OkAll K H ss vs → OkAll K H' ss vs
  | _, _, .nil => .nil
  | _, _, .cons h t => .cons (h.mono m) (OkAll.mono m t)
theorem OkAll.dats {K : PySem.W.Frag} {H : Hp} : ∀ {ds : List PyData} {vs : List V}, OkAll K H (ds.map .dat) vs → DpAll K H vs ds
  | [], _, h => by cases h; exact .nil
  | d :: ds, _, h => by
    rw [List.map_cons] at h
    cases h with
    | cons h1 h2 => exact .cons h1 (OkAll.dats h2)

/-! ### the world around: what may be written, what holds of it -/
structure Wd where
  ws : List Addr
  P : Hp → Prop
  sup : ∀ H H' : Hp, (∀ a ∈ ws, ∀ o, H a = some o → H' a = some o) → P H → P H'
  /-- what stands among the data all the while -/
  C : Hp → Prop := fun _ => True
  mono : ∀ H H' : Hp, Same H H' → C H → C H' := by intros; trivial
/-- nothing is written -/
def W0 : Wd := ⟨[], fun _ => True, fun _ _ _ _ => trivial, fun _ => True, fun _ _ _ _ => trivial⟩
/-- what one looks back to: the heap at the def's entry; the heap since which the data stands -/
structure Bs where
  h0 : Hp
  hb : Hp
structure At (K : PySem.W.Frag) (W : Wd) (ms : List Addr) (B : Bs) (ρ : List Sl) (σ : St) (H : Hp) : Prop where
  sub : ∀ a ∈ W.ws, a ∈ ms
  live : Live ms H
  env : EnvOk K (cut ms H) ρ σ
  p : W.P H
  xw : XW W.ws B.h0 H
  st : Same (cut ms B.hb) (cut ms H)
  c : W.C (cut ms H)
section
variable {K : PySem.W.Frag} {W : Wd} {ms : List Addr} {B : Bs} {H H' : Hp} {ρ ρ' : List Sl} {σ σ' : St}
theorem At.go (h : At K W ms B ρ σ H) (x : XW W.ws H H') (l : Live ms H') (p : W.P H') : At K W ms B ρ σ H' :=
  ⟨h.sub, l, h.env.mono (x.cut h.sub), p, h.xw.trans x, h.st.trans (x.cut h.sub), W.mono _ _ (x.cut h.sub) h.c⟩
theorem At.same (h : At K W ms B ρ σ H) (s : Same H H') : At K W ms B ρ σ H' :=
  h.go (.of_same s) (h.live.same s) (W.sup _ _ (fun a _ o e => s a o e) h.p)
theorem At.set (h : At K W ms B ρ σ H) {s : Sl} {v : V} (hv : s.ok K (cut ms H) v) (i : Nat) : At K W ms B (ρ.set i s) (σ.set i (some v)) H :=
  ⟨h.sub, h.live, h.env.set (SlO.of hv) i, h.p, h.xw, h.st, h.c⟩
theorem At.le (h : At K W ms B ρ σ H) (l : Le ρ' ρ) : At K W ms B ρ' σ H := ⟨h.sub, h.live, h.env.le l, h.p, h.xw, h.st, h.c⟩
theorem At.base (h : At K W ms B ρ σ H) : At K W ms ⟨H, H⟩ ρ σ H := ⟨h.sub, h.live, h.env, h.p, .refl H, Same.refl _, h.c⟩
/-- the data is looked at from here on -/
theorem At.re (h : At K W ms B ρ σ H) : At K W ms ⟨B.h0, H⟩ ρ σ H := ⟨h.sub, h.live, h.env, h.p, h.xw, Same.refl _, h.c⟩
theorem At.un (h : At K W ms B ρ σ H) (g : At K W ms ⟨B.h0, H⟩ ρ' σ' H') : At K W ms B ρ' σ' H' := ⟨g.sub, g.live, g.env, g.p, g.xw, h.st.trans g.st, g.c⟩
theorem At.wipe (h : At K W ms B ρ σ H) (vs : List Nat) : At K W ms B (wipeR ρ vs) (L2.wipe σ vs) H := ⟨h.sub, h.live, h.env.wipe vs, h.p, h.xw, h.st, h.c⟩
theorem At.fresh (h : At K W ms B ρ σ H) {l : Addr} (hl : H l = none) : B.h0 l = none ∧ l ∉ ms ∧ l ∉ W.ws := by
  have hm : l ∉ ms := h.live.fresh hl
  have hw : l ∉ W.ws := fun z => hm (h.sub l z)
  refine ⟨?_, hm, hw⟩
  cases q : B.h0 l with
  | none => rfl
  | some o =>
    rw [h.xw l o hw q] at hl
    cases hl
/-- a new object of one's own stands at l: told apart from the data -/
theorem At.own (h : At K W ms B ρ σ H) {l : Addr} {o : HO} (hl : H l = none) : At K W (l :: ms) B ρ σ (upd H l o) := by
  obtain ⟨h0, hm, hw⟩ := h.fresh hl
  have key : ∀ {G : Hp}, Same (cut ms G) (cut ms H) → Same (cut ms G) (cut (l :: ms) (upd H l o)) := fun {G} s a u e => by
    have e1 := s a u e
    have na : a ≠ l := fun z => by
      subst z
      rw [cut_out hm, hl] at e1; cases e1
    have nm : a ∉ ms := fun z => by rw [cut_in z] at e; cases e
    rw [cut_out nm] at e1
    rw [cut_out (by simp [na, nm]), upd_ne na]
    exact e1
  refine ⟨fun a z => List.mem_cons_of_mem _ (h.sub a z), h.live.put, h.env.mono (key (Same.refl _)), W.sup _ _ (fun a z o e => ?_) h.p, h.xw.put h0, fun a u e => key h.st a u (cut_cons a u e), W.mono _ _ (key (Same.refl _)) h.c⟩
  rw [upd_ne (fun q => by subst q; exact hw z)]
  exact e
/-- one's own object is written -/
theorem At.write (h : At K W ms B ρ σ H) {l : Addr} {o : HO} (hl : l ∈ ms) (hw : l ∉ W.ws) (h0 : B.h0 l = none) : At K W ms B ρ σ (upd H l o) := by
  refine ⟨h.sub, h.live.upd, h.env.mono (cut_put (.inl hl)), W.sup _ _ (fun a z o e => ?_) h.p, h.xw.put h0, h.st.trans (cut_put (.inl hl)), W.mono _ _ (cut_put (.inl hl)) h.c⟩
  rw [upd_ne (fun q => by subst q; exact hw z)]
  exact e
end

/-! ### what evaluates to what -/
def Ev (K : PySem.W.Frag) (W : Wd) (te : TE) (ρ : List Sl) (s : Sl) : Prop :=
  ∀ (ms : List Addr) (H0 : Bs) (σ : St) (H : Hp), At K W ms H0 ρ σ H → ∀ Q : VK, (∀ v H', At K W ms H0 ρ σ H' → XW W.ws H H' → s.ok K (cut ms H') v → Q v H') → te σ H Q
def EvT (K : PySem.W.Frag) (W : Wd) (tt : TT) (ρ : List Sl) (b : Bool) : Prop :=
  ∀ (ms : List Addr) (H0 : Bs) (σ : St) (H : Hp), At K W ms H0 ρ σ H → ∀ Q : Bool → Hp → Prop, (∀ H', At K W ms H0 ρ σ H' → XW W.ws H H' → Q b H') → tt σ H Q
def EvA (K : PySem.W.Frag) (W : Wd) (ta : TA) (ρ : List Sl) (ss : List Sl) : Prop :=
  ∀ (ms : List Addr) (H0 : Bs) (σ : St) (H : Hp), At K W ms H0 ρ σ H → ∀ Q : List V → Hp → Prop, (∀ vs H', At K W ms H0 ρ σ H' → XW W.ws H H' → OkAll K (cut ms H') ss vs → Q vs H') → ta σ H Q
/-- .. to one of several things -/
def En (K : PySem.W.Frag) (W : Wd) (te : TE) (ρ : List Sl) (Φ : Sl → Prop) : Prop :=
  ∀ (ms : List Addr) (H0 : Bs) (σ : St) (H : Hp), At K W ms H0 ρ σ H → ∀ Q : VK, (∀ s v H', Φ s → At K W ms H0 ρ σ H' → XW W.ws H H' → s.ok K (cut ms H') v → Q v H') → te σ H Q
def EnA (K : PySem.W.Frag) (W : Wd) (ta : TA) (ρ : List Sl) (Φ : List Sl → Prop) : Prop :=
  ∀ (ms : List Addr) (H0 : Bs) (σ : St) (H : Hp), At K W ms H0 ρ σ H → ∀ Q : List V → Hp → Prop, (∀ ss vs H', Φ ss → At K W ms H0 ρ σ H' → XW W.ws H H' → OkAll K (cut ms H') ss vs → Q vs H') → ta σ H Q
def EnT (K : PySem.W.Frag) (W : Wd) (tt : TT) (ρ : List Sl) (Φ : Bool → Prop) : Prop :=
  ∀ (ms : List Addr) (H0 : Bs) (σ : St) (H : Hp), At K W ms H0 ρ σ H → ∀ Q : Bool → Hp → Prop, (∀ b H', Φ b → At K W ms H0 ρ σ H' → XW W.ws H H' → Q b H') → tt σ H Q
end Fw

/-! The frame, 2: rules of evaluation. -/
namespace Fw
open PySem L2

section
variable {K : PySem.W.Frag} {W : Wd} {ms : List Addr} {H0 : Bs} {H H' : Hp} {ρ ρ' : List Sl} {σ σ' : St}
/-- back behind a stretch in which more stood apart -/
theorem At.back (h : At K W ms H0 ρ σ H) {ms' : List Addr} {B' : Bs} {ρ' : List Sl} {σ' : St} (g : At K W ms' B' ρ' σ' H') (e : B'.h0 = H) (hm : ∀ a ∈ ms, a ∈ ms') : At K W ms H0 ρ σ H' := by
  have x := g.xw
  rw [e] at x
  exact h.go x (fun a z => g.live a (hm a z)) g.p

def EvD (K : PySem.W.Frag) (W : Wd) (ta : TA) (ρ : List Sl) (ds : List PyData) : Prop :=
  ∀ (ms : List Addr) (H0 : Bs) (σ : St) (H : Hp), At K W ms H0 ρ σ H → ∀ Q : List V → Hp → Prop, (∀ vs H', At K W ms H0 ρ σ H' → XW W.ws H H' → DpAll K (cut ms H') vs ds → Q vs H') → ta σ H Q
abbrev Evd (K : PySem.W.Frag) (W : Wd) (te : TE) (ρ : List Sl) (d : PyData) : Prop := Ev K W te ρ (.dat d)

variable {ta tb tc te tx : TE} {tt t u : TT} {s s1 s2 s3 : Sl} {d e : PyData} {v x y z : V}

theorem ev_eq (h : Ev K W te ρ s) (e : s = s1) : Ev K W te ρ s1 := e ▸ h
theorem evd_eq (h : Evd K W te ρ d) (q : d = e) : Evd K W te ρ e := q ▸ h
theorem et_eq {a b : Bool} (h : EvT K W t ρ a) (e : a = b) : EvT K W t ρ b := e ▸ h
theorem ev_var {i : Nat} (h : ρ[i]? = some s) (n : s ≠ .emp) : Ev K W (tVar i) ρ s := fun ms H0 σ H a Q q => by
  obtain ⟨v, e, o⟩ := a.env.get h n
  exact ⟨v, e, q v H a (.refl H) o⟩
theorem evd_var {i : Nat} (h : ρ[i]? = some (.dat d)) : Evd K W (tVar i) ρ d := ev_var h (by intro q; cases q)
theorem evr_var {i : Nat} (h : ρ[i]? = some (.raw v)) : Ev K W (tVar i) ρ (.raw v) := ev_var h (by intro q; cases q)
theorem ev_c : Ev K W (tC v) ρ (.raw v) := fun ms H0 σ H a Q q => q v H a (.refl H) rfl
theorem ev_cd (h : ∀ H, Dp K H v d) : Evd K W (tC v) ρ d := fun ms H0 σ H a Q q => q v H a (.refl H) (h _)
theorem ev_int {i : Int} : Evd K W (tC (.int i)) ρ (.int i) := ev_cd fun _ => .int i
theorem ev_str {i : Str} : Evd K W (tC (.str i)) ρ (.str i) := ev_cd fun _ => .str i
theorem ev_bl {i : Bool} : Evd K W (tC (.bl i)) ρ (.bool i) := ev_cd fun _ => .bl i
theorem ev_non : Evd K W (tC .non) ρ .none := ev_cd fun _ => .non

/-- by values -/
def Rs (K : PySem.W.Frag) (r : R2) (s1 s2 s : Sl) : Prop :=
  ∀ (ms : List Addr) (H : Hp) (x y : V), Live ms H → s1.ok K (cut ms H) x → s2.ok K (cut ms H) y → ∀ Q : VK, (∀ v H', Same H H' → s.ok K (cut ms H') v → Q v H') → r x y H Q
theorem ev_op {r : R2} (ha : Ev K W ta ρ s1) (hb : Ev K W tb ρ s2) (hr : Rs K r s1 s2 s) : Ev K W (tOp r ta tb) ρ s := fun ms H0 σ H h Q q =>
  ha ms H0 σ H h _ fun x H1 h1 x1 o1 => hb ms H0 σ H1 h1 _ fun y H2 h2 x2 o2 =>
    hr ms H2 x y h2.live (o1.mono (x2.cut h2.sub)) o2 Q fun v H3 s3 o3 => q v H3 (h2.same s3) ((x1.trans x2).trans (.of_same s3)) o3
theorem rs_I0 {g : Int → Int → V} {i j : Int} (hd : ∀ H, Dp K H (g i j) d) : Rs K (rI0 g) (.dat (.int i)) (.dat (.int j)) (.dat d) := fun ms H x y _ hx hy Q q => by
  cases hx; cases hy
  exact ⟨i, j, rfl, rfl, q _ H (Same.refl H) (hd _)⟩
theorem rs_I {C : Int → Int → Prop} {g : Int → Int → V} {i j : Int} (hd : ∀ H, Dp K H (g i j) d) (hc : C i j) : Rs K (rI C g) (.dat (.int i)) (.dat (.int j)) (.dat d) := fun ms H x y _ hx hy Q q => by
  cases hx; cases hy
  exact ⟨i, j, rfl, rfl, hc, q _ H (Same.refl H) (hd _)⟩
theorem ev_add {i j : Int} (ha : Evd K W ta ρ (.int i)) (hb : Evd K W tb ρ (.int j)) : Evd K W (tOp (rI0 fun i j => .int (i + j)) ta tb) ρ (.int (i + j)) := ev_op ha hb (rs_I0 fun _ => .int _)
theorem ev_sub {i j : Int} (ha : Evd K W ta ρ (.int i)) (hb : Evd K W tb ρ (.int j)) : Evd K W (tOp (rI0 fun i j => .int (i - j)) ta tb) ρ (.int (i - j)) := ev_op ha hb (rs_I0 fun _ => .int _)
theorem ev_mul {i j : Int} (ha : Evd K W ta ρ (.int i)) (hb : Evd K W tb ρ (.int j)) (hc : CMul i j) : Evd K W (tOp (rI CMul fun i j => .int (i * j)) ta tb) ρ (.int (i * j)) := ev_op ha hb (rs_I (fun _ => .int _) hc)
theorem ev_mulW {i j : Int} (ha : Evd K W ta ρ (.int i)) (hb : Evd K W tb ρ (.int j)) (hc : CMulW i j) : Evd K W (tOp (rI CMulW fun i j => .int (i * j)) ta tb) ρ (.int (i * j)) := ev_op ha hb (rs_I (fun _ => .int _) hc)
theorem ev_divW {i j : Int} (ha : Evd K W ta ρ (.int i)) (hb : Evd K W tb ρ (.int j)) (hc : CDivW i j) : Evd K W (tOp (rI CDivW fun i j => .int (i / j)) ta tb) ρ (.int (i / j)) := ev_op ha hb (rs_I (fun _ => .int _) hc)
theorem ev_div {i j : Int} (ha : Evd K W ta ρ (.int i)) (hb : Evd K W tb ρ (.int j)) (hc : CDiv i j) : Evd K W (tOp (rI CDiv fun i j => .int (i / j)) ta tb) ρ (.int (i / j)) := ev_op ha hb (rs_I (fun _ => .int _) hc)
theorem ev_mod {i j : Int} (ha : Evd K W ta ρ (.int i)) (hb : Evd K W tb ρ (.int j)) (hc : 0 < j) : Evd K W (tOp (rI (fun _ j => 0 < j) fun i j => .int (i % j)) ta tb) ρ (.int (i % j)) := ev_op ha hb (rs_I (C := fun _ j => 0 < j) (fun _ => .int _) hc)
theorem ev_pow {i j : Int} (ha : Evd K W ta ρ (.int i)) (hb : Evd K W tb ρ (.int j)) (hc : CPow i j) : Evd K W (tOp (rI CPow fun i j => .int (i ^ j.toNat)) ta tb) ρ (.int (i ^ j.toNat)) := ev_op ha hb (rs_I (fun _ => .int _) hc)
theorem ev_lt {i j : Int} (ha : Evd K W ta ρ (.int i)) (hb : Evd K W tb ρ (.int j)) : Evd K W (tOp (rI0 fun i j => .bl (decide (i < j))) ta tb) ρ (.bool (decide (i < j))) := ev_op ha hb (rs_I0 fun _ => .bl _)
theorem ev_le {i j : Int} (ha : Evd K W ta ρ (.int i)) (hb : Evd K W tb ρ (.int j)) : Evd K W (tOp (rI0 fun i j => .bl (decide (i ≤ j))) ta tb) ρ (.bool (decide (i ≤ j))) := ev_op ha hb (rs_I0 fun _ => .bl _)
theorem ev_gt {i j : Int} (ha : Evd K W ta ρ (.int i)) (hb : Evd K W tb ρ (.int j)) : Evd K W (tOp (rI0 fun i j => .bl (decide (j < i))) ta tb) ρ (.bool (decide (j < i))) := ev_op ha hb (rs_I0 fun _ => .bl _)
theorem ev_ge {i j : Int} (ha : Evd K W ta ρ (.int i)) (hb : Evd K W tb ρ (.int j)) : Evd K W (tOp (rI0 fun i j => .bl (decide (j ≤ i))) ta tb) ρ (.bool (decide (j ≤ i))) := ev_op ha hb (rs_I0 fun _ => .bl _)
theorem dec_int {i j : Int} : decide (V.int i = V.int j) = decide (i = j) := by
  by_cases h : i = j
  · subst h; rw [decide_eq_true rfl, decide_eq_true rfl]
  · rw [decide_eq_false h, decide_eq_false fun q => h (by injection q)]
theorem dec_str {i j : Str} : decide (V.str i = V.str j) = decide (i = j) := by
  by_cases h : i = j
  · subst h; rw [decide_eq_true rfl, decide_eq_true rfl]
  · rw [decide_eq_false h, decide_eq_false fun q => h (by injection q)]
theorem ev_eqI {i j : Int} (ha : Evd K W ta ρ (.int i)) (hb : Evd K W tb ρ (.int j)) : Evd K W (tOp rEq ta tb) ρ (.bool (decide (i = j))) := ev_op ha hb fun ms H x y _ hx hy Q q => by
  cases hx; cases hy
  exact ⟨rfl, q _ H (Same.refl H) (by rw [dec_int]; exact .bl _)⟩
theorem ev_neI {i j : Int} (ha : Evd K W ta ρ (.int i)) (hb : Evd K W tb ρ (.int j)) : Evd K W (tOp rNe ta tb) ρ (.bool (!decide (i = j))) := ev_op ha hb fun ms H x y _ hx hy Q q => by
  cases hx; cases hy
  exact ⟨rfl, q _ H (Same.refl H) (by rw [dec_int]; exact .bl _)⟩
theorem ev_eqS {i j : Str} (ha : Evd K W ta ρ (.str i)) (hb : Evd K W tb ρ (.str j)) : Evd K W (tOp rEq ta tb) ρ (.bool (decide (i = j))) := ev_op ha hb fun ms H x y _ hx hy Q q => by
  cases hx; cases hy
  exact ⟨rfl, q _ H (Same.refl H) (by rw [dec_str]; exact .bl _)⟩
theorem ev_neS {i j : Str} (ha : Evd K W ta ρ (.str i)) (hb : Evd K W tb ρ (.str j)) : Evd K W (tOp rNe ta tb) ρ (.bool (!decide (i = j))) := ev_op ha hb fun ms H x y _ hx hy Q q => by
  cases hx; cases hy
  exact ⟨rfl, q _ H (Same.refl H) (by rw [dec_str]; exact .bl _)⟩
theorem atI_map {α β : Type} {xs : List α} {ys : List β} {R : α → β → Prop} (hl : xs.length = ys.length) (h : ∀ (i : Nat) b, ys[i]? = some b → ∃ a, xs[i]? = some a ∧ R a b) {i : Int} {b : β} (e : atI ys i = some b) : ∃ a, atI xs i = some a ∧ R a b := by
  unfold atI at e ⊢
  rw [hl]
  cases q : ixN ys.length i with
  | none => rw [q] at e; cases e
  | some j =>
    rw [q] at e
    exact h j b e
theorem rs_ixL {ds : List PyData} {i : Int} (h : atI ds i = some d) : Rs K (rIxL K) (.dat (.list ds)) (.dat (.int i)) (.dat d) := fun ms H x y _ hx hy Q q => by
  cases hy
  cases hx with
  | lst hs ha =>
    obtain ⟨v, e, g⟩ := atI_map (R := fun v d => Dp K (cut ms H) v d) (dpa_len ha) (fun i b e => dpa_get' ha e) h
    exact ⟨_, _, i, v, rfl, rfl, sql_mono cut_le hs, e, q v H (Same.refl H) g⟩
theorem rs_ixT {ds : List PyData} {i : Int} (h : atI ds i = some d) : Rs K (rIxT K) (.dat (.tuple ds)) (.dat (.int i)) (.dat d) := fun ms H x y _ hx hy Q q => by
  cases hy
  cases hx with
  | tup hs ha =>
    obtain ⟨v, e, g⟩ := atI_map (R := fun v d => Dp K (cut ms H) v d) (dpa_len ha) (fun i b e => dpa_get' ha e) h
    exact ⟨_, _, i, v, rfl, rfl, sqt_mono cut_le hs, e, q v H (Same.refl H) g⟩
theorem ev_ixL {ds : List PyData} {i : Int} (ha : Evd K W ta ρ (.list ds)) (hb : Evd K W tb ρ (.int i)) (h : atI ds i = some d) : Evd K W (tOp (rIxL K) ta tb) ρ d := ev_op ha hb (rs_ixL h)
theorem ev_ixT {ds : List PyData} {i : Int} (ha : Evd K W ta ρ (.tuple ds)) (hb : Evd K W tb ρ (.int i)) (h : atI ds i = some d) : Evd K W (tOp (rIxT K) ta tb) ρ d := ev_op ha hb (rs_ixT h)
theorem ev_eqD (ha : Evd K W ta ρ d) (hb : Evd K W tb ρ e) (sd : SeqAt.shaped d = true) (se : SeqAt.shaped e = true) : Evd K W (tOp (rEqD K) ta tb) ρ (.bool (PyData.eqv d e)) := ev_op ha hb fun ms H x y _ hx hy Q q =>
  ⟨d, e, dp_mono cut_le _ _ hx, dp_mono cut_le _ _ hy, sd, se, q _ H (Same.refl H) (.bl _)⟩
theorem ev_neD (ha : Evd K W ta ρ d) (hb : Evd K W tb ρ e) (sd : SeqAt.shaped d = true) (se : SeqAt.shaped e = true) : Evd K W (tOp (rNeD K) ta tb) ρ (.bool (!PyData.eqv d e)) := ev_op ha hb fun ms H x y _ hx hy Q q =>
  ⟨d, e, dp_mono cut_le _ _ hx, dp_mono cut_le _ _ hy, sd, se, q _ H (Same.refl H) (.bl _)⟩

/-! tests and truth -/
theorem et_test {b : Bool} (h : Evd K W te ρ (.bool b)) : EvT K W (tTest te) ρ b := fun ms H0 σ H a Q q => h ms H0 σ H a _ fun v H1 h1 x1 o1 => by
  cases o1
  exact ⟨b, rfl, q H1 h1 x1⟩
theorem et_B {b : Bool} (h : Evd K W te ρ (.bool b)) : EvT K W (tB te) ρ b := fun ms H0 σ H a Q q => h ms H0 σ H a _ fun v H1 h1 x1 o1 => by
  cases o1
  exact ⟨b, rfl, q H1 h1 x1⟩
theorem et_yes : EvT K W tYes ρ true := fun ms H0 σ H a Q q => q H a (.refl H)
theorem et_and {a b : Bool} (h1 : EvT K W t ρ a) (h2 : a = true → EvT K W u ρ b) : EvT K W (tAnd t u) ρ (a && b) := fun ms H0 σ H h Q q => h1 ms H0 σ H h _ fun H1 g1 x1 => by
  cases a with
  | true =>
    show u σ H1 Q
    exact h2 rfl ms H0 σ H1 g1 Q fun H2 g2 x2 => q H2 g2 (x1.trans x2)
  | false =>
    show Q false H1
    exact q H1 g1 x1
theorem et_or {a b : Bool} (h1 : EvT K W t ρ a) (h2 : a = false → EvT K W u ρ b) : EvT K W (tOr t u) ρ (a || b) := fun ms H0 σ H h Q q => h1 ms H0 σ H h _ fun H1 g1 x1 => by
  cases a with
  | true =>
    show Q true H1
    exact q H1 g1 x1
  | false =>
    show u σ H1 Q
    exact h2 rfl ms H0 σ H1 g1 Q fun H2 g2 x2 => q H2 g2 (x1.trans x2)
theorem et_not {a : Bool} (h : EvT K W t ρ a) : EvT K W (tNot t) ρ (!a) := fun ms H0 σ H g Q q => h ms H0 σ H g _ fun H1 g1 x1 => q H1 g1 x1
theorem ev_andV {a b : Bool} (h1 : Evd K W ta ρ (.bool a)) (h2 : a = true → Evd K W tb ρ (.bool b)) : Evd K W (tAndV ta tb) ρ (.bool (a && b)) := fun ms H0 σ H h Q q => h1 ms H0 σ H h _ fun v H1 g1 x1 o1 => by
  cases o1
  refine ⟨a, rfl, ?_⟩
  cases a with
  | true =>
    show tb σ H1 Q
    exact h2 rfl ms H0 σ H1 g1 Q fun v H2 g2 x2 o2 => q v H2 g2 (x1.trans x2) o2
  | false =>
    show Q (.bl false) H1
    exact q _ H1 g1 x1 (.bl _)
theorem ev_orV {a b : Bool} (h1 : Evd K W ta ρ (.bool a)) (h2 : a = false → Evd K W tb ρ (.bool b)) : Evd K W (tOrV ta tb) ρ (.bool (a || b)) := fun ms H0 σ H h Q q => h1 ms H0 σ H h _ fun v H1 g1 x1 o1 => by
  cases o1
  refine ⟨a, rfl, ?_⟩
  cases a with
  | true =>
    show Q (.bl true) H1
    exact q _ H1 g1 x1 (.bl _)
  | false =>
    show tb σ H1 Q
    exact h2 rfl ms H0 σ H1 g1 Q fun v H2 g2 x2 o2 => q v H2 g2 (x1.trans x2) o2
theorem ev_notV {a : Bool} (h : Evd K W ta ρ (.bool a)) : Evd K W (tNotV ta) ρ (.bool (!a)) := fun ms H0 σ H g Q q => h ms H0 σ H g _ fun v H1 g1 x1 o1 => by
  cases o1
  exact ⟨a, rfl, q _ H1 g1 x1 (.bl _)⟩
theorem ev_if {b : Bool} (h : EvT K W t ρ b) (h1 : b = true → Ev K W ta ρ s) (h2 : b = false → Ev K W tb ρ s) : Ev K W (tIf t ta tb) ρ s := fun ms H0 σ H g Q q => h ms H0 σ H g _ fun H1 g1 x1 => by
  cases b with
  | true =>
    show ta σ H1 Q
    exact h1 rfl ms H0 σ H1 g1 Q fun v H2 g2 x2 o2 => q v H2 g2 (x1.trans x2) o2
  | false =>
    show tb σ H1 Q
    exact h2 rfl ms H0 σ H1 g1 Q fun v H2 g2 x2 o2 => q v H2 g2 (x1.trans x2) o2
/-- a ≤ b ≤ c -/
theorem ev_chain {p p' : Int → Int → Bool} {i j k : Int} (ha : Evd K W ta ρ (.int i)) (hb : Evd K W tb ρ (.int j)) (hc : Evd K W tc ρ (.int k)) :
    Evd K W (tChain (rI0 fun i j => .bl (p i j)) (rI0 fun i j => .bl (p' i j)) ta tb tc) ρ (.bool (p i j && p' j k)) := fun ms H0 σ H g Q q =>
  ha ms H0 σ H g _ fun x H1 g1 x1 o1 => hb ms H0 σ H1 g1 _ fun y H2 g2 x2 o2 => by
    cases o1; cases o2
    refine ⟨i, j, rfl, rfl, _, rfl, ?_⟩
    cases e : p i j with
    | true =>
      refine iteT (hc ms H0 σ H2 g2 _ fun z H3 g3 x3 o3 => ?_)
      cases o3
      exact ⟨j, k, rfl, rfl, q _ H3 g3 ((x1.trans x2).trans x3) (by rw [e, Bool.true_and]; exact .bl _)⟩
    | false => exact iteF (q _ H2 g2 (x1.trans x2) (by rw [e, Bool.false_and]; exact .bl _))

/-! arguments, displays -/
theorem ed_nil : EvD K W tNil ρ [] := fun ms H0 σ H g Q q => q [] H g (.refl H) .nil
theorem ed_cons {tr : TA} {ds : List PyData} (h : Evd K W ta ρ d) (hr : EvD K W tr ρ ds) : EvD K W (tCons ta tr) ρ (d :: ds) := fun ms H0 σ H g Q q =>
  h ms H0 σ H g _ fun x H1 g1 x1 o1 => hr ms H0 σ H1 g1 _ fun xs H2 g2 x2 o2 => q _ H2 g2 (x1.trans x2) (.cons (o1.mono (x2.cut g2.sub)) o2)
theorem ea_nil : EvA K W tNil ρ [] := fun ms H0 σ H g Q q => q [] H g (.refl H) .nil
theorem ea_cons {tr : TA} {ss : List Sl} (h : Ev K W ta ρ s) (hr : EvA K W tr ρ ss) : EvA K W (tCons ta tr) ρ (s :: ss) := fun ms H0 σ H g Q q =>
  h ms H0 σ H g _ fun x H1 g1 x1 o1 => hr ms H0 σ H1 g1 _ fun xs H2 g2 x2 o2 => q _ H2 g2 (x1.trans x2) (.cons (o1.mono (x2.cut g2.sub)) o2)
/-- a new object of data -/
theorem Sl.new_tup {ms : List Addr} {H : Hp} {p : Addr} {vs : List V} {ds : List PyData} (l : Live ms H) (hp : H p = none) (h : DpAll K (cut ms H) vs ds) : (Sl.dat (.tuple ds)).ok K (cut ms (upd H p (.tup vs))) (.ref p) :=
  .tup (.inl (.inl (by rw [cut_out (l.fresh hp)]; exact upd_same))) (dpa_mono (cut_put (.inr hp)) _ _ h)
theorem Sl.new_lst {ms : List Addr} {H : Hp} {p : Addr} {vs : List V} {ds : List PyData} (l : Live ms H) (hp : H p = none) (h : DpAll K (cut ms H) vs ds) : (Sl.dat (.list ds)).ok K (cut ms (upd H p (.lst vs))) (.ref p) :=
  .lst (.inl (.inl (by rw [cut_out (l.fresh hp)]; exact upd_same))) (dpa_mono (cut_put (.inr hp)) _ _ h)
theorem same_put {H : Hp} {p : Addr} {o : HO} (h : H p = none) : Same H (upd H p o) := fun a u e => by
  rw [upd_ne (ne_of_none e h)]
  exact e
theorem le_line {n : Nat} (h : n ≤ 100000) : n ≤ sizeLine := Nat.le_trans h (by decide)
theorem ev_tup {ta : TA} {ds : List PyData} (h : EvD K W ta ρ ds) (hl : ds.length ≤ 100000) : Evd K W (tTup ta) ρ (.tuple ds) := fun ms H0 σ H g Q q => h ms H0 σ H g _ fun vs H1 g1 x1 o1 =>
  ⟨by rw [dpa_len o1]; exact le_line hl, fun p hp => q _ _ (g1.same (same_put hp)) (x1.trans (.of_same (same_put hp))) (Sl.new_tup g1.live hp o1)⟩
theorem ev_lst {ta : TA} {ds : List PyData} (h : EvD K W ta ρ ds) (hl : ds.length ≤ 100000) : Evd K W (tLst ta) ρ (.list ds) := fun ms H0 σ H g Q q => h ms H0 σ H g _ fun vs H1 g1 x1 o1 =>
  ⟨by rw [dpa_len o1]; exact le_line hl, fun p hp => q _ _ (g1.same (same_put hp)) (x1.trans (.of_same (same_put hp))) (Sl.new_lst g1.live hp o1)⟩

/-! built-ins, by values -/
def Rc (K : PySem.W.Frag) (r : List V → Hp → VK → Prop) (ds : List PyData) (s : Sl) : Prop :=
  ∀ (ms : List Addr) (H : Hp) (vs : List V), Live ms H → DpAll K (cut ms H) vs ds → ∀ Q : VK, (∀ v H', Same H H' → s.ok K (cut ms H') v → Q v H') → r vs H Q
theorem ev_cb {r : List V → Hp → VK → Prop} {ta : TA} {ds : List PyData} (h : EvD K W ta ρ ds) (hr : Rc K r ds s) : Ev K W (tCB r ta) ρ s := fun ms H0 σ H g Q q => h ms H0 σ H g _ fun vs H1 g1 x1 o1 =>
  hr ms H1 vs g1.live o1 Q fun v H2 s2 o2 => q v H2 (g1.same s2) (x1.trans (.of_same s2)) o2
theorem rc1 {r : List V → Hp → VK → Prop} (h : ∀ (ms : List Addr) (H : Hp) (v : V), Live ms H → Dp K (cut ms H) v d → ∀ Q : VK, (∀ v H', Same H H' → s.ok K (cut ms H') v → Q v H') → r [v] H Q) : Rc K r [d] s := fun ms H vs l o Q q => by
  cases o with
  | cons o1 o2 =>
    cases o2
    exact h ms H _ l o1 Q q
theorem rc2 {r : List V → Hp → VK → Prop} (h : ∀ (ms : List Addr) (H : Hp) (v w : V), Live ms H → Dp K (cut ms H) v d → Dp K (cut ms H) w e → ∀ Q : VK, (∀ v H', Same H H' → s.ok K (cut ms H') v → Q v H') → r [v, w] H Q) : Rc K r [d, e] s := fun ms H vs l o Q q => by
  cases o with
  | cons o1 o2 =>
    cases o2 with
    | cons o2 o3 =>
      cases o3
      exact h ms H _ _ l o1 o2 Q q
abbrev rLenQ (K : PySem.W.Frag) : List V → Hp → VK → Prop := fun xs H Q => ∃ p ys, xs = [.ref p] ∧ (SqL K H p ys ∨ SqT K H p ys) ∧ Q (.int ys.length) H
theorem ev_lenL {ds : List PyData} (h : Evd K W te ρ (.list ds)) : Evd K W (tCB (rLenQ K) (tCons te tNil)) ρ (.int (ds.length : Int)) := ev_cb (ed_cons h ed_nil) (rc1 fun ms H v l o Q q => by
  cases o with
  | lst hs ha => exact ⟨_, _, rfl, .inl (sql_mono cut_le hs), by rw [dpa_len ha]; exact q _ H (Same.refl H) (.int _)⟩)
theorem ev_lenT {ds : List PyData} (h : Evd K W te ρ (.tuple ds)) : Evd K W (tCB (rLenQ K) (tCons te tNil)) ρ (.int (ds.length : Int)) := ev_cb (ed_cons h ed_nil) (rc1 fun ms H v l o Q q => by
  cases o with
  | tup hs ha => exact ⟨_, _, rfl, .inr (sqt_mono cut_le hs), by rw [dpa_len ha]; exact q _ H (Same.refl H) (.int _)⟩)
abbrev rInt1 : List V → Hp → VK → Prop := fun xs H Q => (∃ i, xs = [.int i] ∧ Q (.int i) H) ∨ ∃ k, xs = [.bl k] ∧ Q (.int (if k then 1 else 0)) H
theorem ev_toInt {i : Int} (h : Evd K W te ρ (.int i)) : Evd K W (tCB rInt1 (tCons te tNil)) ρ (.int i) := ev_cb (ed_cons h ed_nil) (rc1 fun ms H v l o Q q => by
  cases o
  exact .inl ⟨_, rfl, q _ H (Same.refl H) (.int _)⟩)
abbrev rAbs1 : List V → Hp → VK → Prop := fun xs H Q => ∃ i, xs = [.int i] ∧ Q (.int (if i < 0 then -i else i)) H
theorem ev_abs {i : Int} (h : Evd K W te ρ (.int i)) : Evd K W (tCB rAbs1 (tCons te tNil)) ρ (.int (if i < 0 then -i else i)) := ev_cb (ed_cons h ed_nil) (rc1 fun ms H v l o Q q => by
  cases o
  exact ⟨_, rfl, q _ H (Same.refl H) (.int _)⟩)
abbrev rMin2 : List V → Hp → VK → Prop := fun xs H Q => ∃ i j, xs = [.int i, .int j] ∧ Q (.int (if j < i then j else i)) H
theorem ev_min2 {i j : Int} (h : Evd K W ta ρ (.int i)) (h' : Evd K W tb ρ (.int j)) : Evd K W (tCB rMin2 (tCons ta (tCons tb tNil))) ρ (.int (if j < i then j else i)) := ev_cb (ed_cons h (ed_cons h' ed_nil)) (rc2 fun ms H v w l o o' Q q => by
  cases o; cases o'
  exact ⟨_, _, rfl, q _ H (Same.refl H) (.int _)⟩)
theorem ev_gcd {i j : Int} (h : Evd K W ta ρ (.int i)) (h' : Evd K W tb ρ (.int j)) : Evd K W (tCB rGcd (tCons ta (tCons tb tNil))) ρ (.int ((Nat.gcd i.natAbs j.natAbs : Nat) : Int)) := ev_cb (ed_cons h (ed_cons h' ed_nil)) (rc2 fun ms H v w l o o' Q q => by
  cases o; cases o'
  exact ⟨_, _, rfl, q _ H (Same.refl H) (.int _)⟩)
theorem ev_sum {ds : List PyData} {ns : List Int} (h : Evd K W te ρ (.list ds)) (hn : ds = ns.map PyData.int) : Evd K W (tCB (rSum K) (tCons te tNil)) ρ (.int ns.sum) := ev_cb (ed_cons h ed_nil) (rc1 fun ms H v l o Q q => by
  subst hn
  cases o with
  | lst hs ha =>
    rw [dpa_ints ha] at hs
    exact ⟨_, ns, rfl, sql_mono cut_le hs, q _ H (Same.refl H) (.int _)⟩)
theorem ev_max {ds : List PyData} {ns : List Int} {m : Int} (h : Evd K W te ρ (.list ds)) (hn : ds = ns.map PyData.int) (hm : m ∈ ns) (hb : ∀ y ∈ ns, y ≤ m) : Evd K W (tCB (rMax K) (tCons te tNil)) ρ (.int m) := ev_cb (ed_cons h ed_nil) (rc1 fun ms H v l o Q q => by
  subst hn
  cases o with
  | lst hs ha =>
    rw [dpa_ints ha] at hs
    refine ⟨_, ns, rfl, sql_mono cut_le hs, List.length_pos_of_mem hm, fun m' h1 h2 => ?_⟩
    have e : m' = m := Int.le_antisymm (hb _ h1) (h2 _ hm)
    rw [e]
    exact q _ H (Same.refl H) (.int _))
theorem ev_min {ds : List PyData} {ns : List Int} {m : Int} (h : Evd K W te ρ (.list ds)) (hn : ds = ns.map PyData.int) (hm : m ∈ ns) (hb : ∀ y ∈ ns, m ≤ y) : Evd K W (tCB (rMin K) (tCons te tNil)) ρ (.int m) := ev_cb (ed_cons h ed_nil) (rc1 fun ms H v l o Q q => by
  subst hn
  cases o with
  | lst hs ha =>
    rw [dpa_ints ha] at hs
    refine ⟨_, ns, rfl, sql_mono cut_le hs, List.length_pos_of_mem hm, fun m' h1 h2 => ?_⟩
    have e : m' = m := Int.le_antisymm (h2 _ hm) (hb _ h1)
    rw [e]
    exact q _ H (Same.refl H) (.int _))
theorem ev_all {ds : List PyData} {bs : List Bool} (h : Evd K W te ρ (.list ds)) (hn : ds = bs.map PyData.bool) : Evd K W (tCB (rAll K) (tCons te tNil)) ρ (.bool (bs.all id)) := ev_cb (ed_cons h ed_nil) (rc1 fun ms H v l o Q q => by
  subst hn
  cases o with
  | lst hs ha =>
    rw [dpa_bools ha] at hs
    exact ⟨_, bs, rfl, sql_mono cut_le hs, q _ H (Same.refl H) (.bl _)⟩)
abbrev rTupOf (K : PySem.W.Frag) : List V → Hp → VK → Prop := fun xs H Q => ∃ p ys, xs = [.ref p] ∧ ((SqL K H p ys ∧ ∀ l, H l = none → Q (.ref l) (upd H l (.tup ys))) ∨ (SqT K H p ys ∧ Q (.ref p) H))
theorem ev_tupL {ds : List PyData} (h : Evd K W te ρ (.list ds)) : Evd K W (tCB (rTupOf K) (tCons te tNil)) ρ (.tuple ds) := ev_cb (ed_cons h ed_nil) (rc1 fun ms H v l o Q q => by
  cases o with
  | lst hs ha => exact ⟨_, _, rfl, .inl ⟨sql_mono cut_le hs, fun p hp => q _ _ (same_put hp) (Sl.new_tup l hp ha)⟩⟩)
abbrev rLstOf (K : PySem.W.Frag) : List V → Hp → VK → Prop := fun xs H Q => ∃ p ys, xs = [.ref p] ∧ (SqL K H p ys ∨ SqT K H p ys) ∧ ∀ l, H l = none → Q (.ref l) (upd H l (.lst ys))
theorem ev_lstL {ds : List PyData} (h : Evd K W te ρ (.list ds)) : Evd K W (tCB (rLstOf K) (tCons te tNil)) ρ (.list ds) := ev_cb (ed_cons h ed_nil) (rc1 fun ms H v l o Q q => by
  cases o with
  | lst hs ha => exact ⟨_, _, rfl, .inl (sql_mono cut_le hs), fun p hp => q _ _ (same_put hp) (Sl.new_lst l hp ha)⟩)

/-! isinstance -/
def tyName : PyData → String
  | .none => "NoneType" | .bool _ => "bool" | .int _ => "int" | .str _ => "str" | .list _ => "list" | .tuple _ => "tuple" | .dict _ => "dict"
theorem ty_of {H : Hp} {v : V} (h : Dp K H v d) : TyX K H v (.type (tyName d)) := by
  cases h with
  | non => exact .base .non
  | bl b => exact .base (.bl b)
  | int i => exact .base (.int i)
  | str x => exact .base (.str x)
  | lst hs _ =>
    rcases hs with (hs | ⟨o, hs⟩) | ⟨o, its, n, e, c, _⟩
    · exact .base (.lst hs)
    · exact .base (.frz hs)
    · exact .kList e c
  | tup hs _ =>
    rcases hs with (hs | ⟨o, hs⟩) | ⟨o, its, n, e, c, _⟩
    · exact .base (.tup hs)
    · exact .fTuple hs
    · exact .kTuple e c
theorem tyx_mono {ms : List Addr} {v : V} (h : Dp K (cut ms H) v d) : TyX K H v (.type (tyName d)) := ty_of (dp_mono cut_le _ _ h)
theorem ev_isi {T : String} {b : Bool} (h : Evd K W te ρ d) (hk : kitB (tyName d) T = some b) : Evd K W (tCB (rIsi K) (tCons te (tCons (tC (.ty T)) tNil))) ρ (.bool b) := fun ms H0 σ H g Q q =>
  h ms H0 σ H g _ fun v H1 g1 x1 o1 => ⟨v, .ty T, .type (tyName d), .type T, b, rfl, .ty T, tyx_mono o1, kit_ty hk, q _ H1 g1 x1 (.bl b)⟩
theorem ev_isi2 {T U : String} {b : Bool} (h : Evd K W te ρ d) (hk : PySem.W.kitAny K (.type (tyName d)) [.type T, .type U] = some b) : Evd K W (tCB (rIsiT K) (tCons te (tCons (tTup (tCons (tC (.ty T)) (tCons (tC (.ty U)) tNil))) tNil))) ρ (.bool b) := fun ms H0 σ H g Q q =>
  h ms H0 σ H g _ fun v H1 g1 x1 o1 => ⟨by show 2 ≤ sizeLine; decide, fun p hp => ⟨v, p, [.ty T, .ty U], .type (tyName d), [.type T, .type U], b, rfl, upd_same, .cons (.ty T) (.cons (.ty U) .nil),
    ty_of (dp_mono (Same.trans cut_le (same_put hp)) _ _ o1), hk, q _ _ (g1.same (same_put hp)) (x1.trans (.of_same (same_put hp))) (.bl b)⟩⟩
end
end Fw

/-! The frame, 3: targets, sources, comprehensions, loops, statements, defs. -/
namespace Fw
open PySem L2
open PyProof.Rows (envOfC)
open RZ (ItzT iZipA)

section
variable {K : PySem.W.Frag} {W : Wd} {ms : List Addr} {B : Bs} {H H' : Hp} {ρ ρ' ρ1 : List Sl} {σ σ' : St} {d : PyData} {ds : List PyData} {s : Sl} {v : V}
  {ta tb tc te tx tl : TE} {tt t u : TT} {wi : TI} {g : TG} {gs : TGs} {D : Ends} {ts ts' tz : TS}

/-! ### targets -/
def Diff (js : List Nat) (σ σ' : St) : Prop := σ'.length = σ.length ∧ ∀ i : Nat, i ∉ js → σ'[i]? = σ[i]?
theorem Diff.set (σ : St) (j : Nat) (o : Option V) : Diff [j] σ (σ.set j o) := ⟨List.length_set, fun i h => by
  rw [List.getElem?_set_ne]
  intro q
  exact h (by simp [q])⟩
theorem Diff.trans {σ1 σ2 σ3 : St} {js ks : List Nat} (a : Diff js σ1 σ2) (b : Diff ks σ2 σ3) : Diff (js ++ ks) σ1 σ3 :=
  ⟨b.1.trans a.1, fun i h => (b.2 i fun z => h (List.mem_append_right _ z)).trans (a.2 i fun z => h (List.mem_append_left _ z))⟩
theorem wipe_get (σ : St) (i : Nat) : ∀ vs : List Nat, (wipe σ vs)[i]? = if i ∈ vs then σ[i]?.map (fun _ => none) else σ[i]?
  | [] => by simp [wipe]
  | v :: vs => by
    show ((wipe σ vs).set v none)[i]? = _
    have ih := wipe_get σ i vs
    by_cases h : v = i
    · subst h
      rw [List.getElem?_set_self']
      rw [ih, if_pos List.mem_cons_self]
      by_cases hm : v ∈ vs
      · rw [if_pos hm]; cases σ[v]? <;> rfl
      · rw [if_neg hm]; cases σ[v]? <;> rfl
    · rw [List.getElem?_set_ne h, ih]
      have e : (i ∈ v :: vs) = (i ∈ vs) := by
        simp [Ne.symm h]
      simp only [e]
theorem wipe_diff {σ σ2 : St} {js vs : List Nat} (h : Diff js (wipe σ vs) σ2) (hj : ∀ j ∈ js, j ∈ vs) : wipe σ2 vs = wipe σ vs := by
  apply List.ext_getElem?
  intro i
  rw [wipe_get, wipe_get]
  by_cases hm : i ∈ vs
  · rw [if_pos hm, if_pos hm]
    have e : σ2.length = σ.length := by rw [h.1, wipe_length]
    by_cases hl : i < σ.length
    · have hl2 : i < σ2.length := by omega
      rw [List.getElem?_eq_getElem hl, List.getElem?_eq_getElem hl2]
      rfl
    · have hl2 : ¬ i < σ2.length := by omega
      rw [List.getElem?_eq_none (by omega), List.getElem?_eq_none (by omega)]
  · rw [if_neg hm, if_neg hm, h.2 i (fun z => hm (hj i z)), wipe_get, if_neg hm]
def Tg (K : PySem.W.Frag) (W : Wd) (g : TG) (js : List Nat) (d : PyData) (ρ ρ' : List Sl) : Prop :=
  ∀ (ms : List Addr) (B : Bs) (σ : St) (H : Hp) (v : V), At K W ms B ρ σ H → Dp K (cut ms H) v d → ∀ Q : St → Hp → Prop, (∀ σ', At K W ms B ρ' σ' H → Diff js σ σ' → Q σ' H) → g v σ H Q
def Tgs (K : PySem.W.Frag) (W : Wd) (g : TGs) (js : List Nat) (ds : List PyData) (ρ ρ' : List Sl) : Prop :=
  ∀ (ms : List Addr) (B : Bs) (σ : St) (H : Hp) (vs : List V), At K W ms B ρ σ H → DpAll K (cut ms H) vs ds → ∀ Q : St → Hp → Prop, (∀ σ', At K W ms B ρ' σ' H → Diff js σ σ' → Q σ' H) → g vs σ H Q
theorem tg_name {j : Nat} : Tg K W (gName j) [j] d ρ (ρ.set j (.dat d)) := fun ms B σ H v a o Q q => q _ (a.set (s := .dat d) o j) (Diff.set σ j _)
theorem tgs_nil : Tgs K W gNil [] [] ρ ρ := fun ms B σ H vs a o Q q => by
  cases o
  exact ⟨rfl, q σ a ⟨rfl, fun _ _ => rfl⟩⟩
theorem tgs_cons {js ks : List Nat} (h : Tg K W g js d ρ ρ1) (hs : Tgs K W gs ks ds ρ1 ρ') : Tgs K W (gCons g gs) (js ++ ks) (d :: ds) ρ ρ' := fun ms B σ H vs a o Q q => by
  cases o with
  | cons o1 o2 => exact ⟨_, _, rfl, h ms B σ H _ a o1 _ fun σ1 a1 d1 => hs ms B σ1 H _ a1 o2 Q fun σ2 a2 d2 => q σ2 a2 (d1.trans d2)⟩
theorem tg_tup {n : Nat} {js : List Nat} (h : Tgs K W gs js ds ρ ρ') (hn : ds.length = n) : Tg K W (gTup K n gs) js (.tuple ds) ρ ρ' := fun ms B σ H v a o Q q => by
  cases o with
  | tup hs ha => exact ⟨_, _, rfl, sqt_mono cut_le hs, by rw [dpa_len ha]; exact hn, h ms B σ H _ a ha Q q⟩

/-! ### sources -/
def Stream (K : PySem.W.Frag) (J : It) (ms : List Addr) (H' : Hp) (ds : List PyData) : Prop :=
  ∃ (G : Hp → Prop) (Y : Nat → Hp → V → Hp → Prop), Walk J ds.length G Y ∧ ∀ (ms' : List Addr) (H2 : Hp), Same (cut ms H') (cut ms' H2) → G H2 ∧
    ∀ (i : Nat) (x : V) (H3 : Hp), Live ms' H2 → Y i H2 x H3 → Same H2 H3 ∧ ∀ d, ds[i]? = some d → Dp K (cut ms' H3) x d
def Src (K : PySem.W.Frag) (W : Wd) (wi : TI) (ρ : List Sl) (ds : List PyData) : Prop :=
  ∀ (ms : List Addr) (B : Bs) (σ : St) (H : Hp), At K W ms B ρ σ H → ∀ R : It → Hp → Prop, (∀ J H', At K W ms B ρ σ H' → XW W.ws H H' → Stream K J ms H' ds → R J H') → wi σ H R
theorem src_list (h : Evd K W tl ρ (.list ds)) : Src K W (iList K tl) ρ ds := fun ms B σ H a R q => h ms B σ H a _ fun v H1 h1 x1 o1 => by
  cases o1 with
  | @lst p vs _ hs ha =>
    refine ⟨p, rfl, ⟨vs, sql_mono cut_le hs⟩, q _ H1 h1 x1 ⟨fun H => SqL K H p vs, YAt vs, ?_, fun ms' H2 s => ⟨sql_mono (s.trans cut_le) hs, fun i x H3 l y => ?_⟩⟩⟩
    · rw [← dpa_len ha]; exact walk_list
    · obtain ⟨rfl, e⟩ := y
      refine ⟨Same.refl _, fun d hd => ?_⟩
      obtain ⟨d', e', o⟩ := dpa_get ha e
      rw [hd] at e'
      cases e'
      exact dp_mono s _ _ o
theorem src_tup (h : Evd K W tl ρ (.tuple ds)) : Src K W (iTup K tl) ρ ds := fun ms B σ H a R q => h ms B σ H a _ fun v H1 h1 x1 o1 => by
  cases o1 with
  | @tup p vs _ hs ha =>
    refine ⟨p, rfl, ⟨vs, sqt_mono cut_le hs⟩, q _ H1 h1 x1 ⟨fun H => SqT K H p vs, YAt vs, ?_, fun ms' H2 s => ⟨sqt_mono (s.trans cut_le) hs, fun i x H3 l y => ?_⟩⟩⟩
    · rw [← dpa_len ha]; exact walk_tup
    · obtain ⟨rfl, e⟩ := y
      refine ⟨Same.refl _, fun d hd => ?_⟩
      obtain ⟨d', e', o⟩ := dpa_get ha e
      rw [hd] at e'
      cases e'
      exact dp_mono s _ _ o
theorem src_range {ta : TA} {n : Int} (h : EvD K W ta ρ [.int n]) (hn : n ≤ 1000000000) (h0 : -1000000000 ≤ n) : Src K W (iRng1 ta) ρ ((List.range n.toNat).map fun i => PyData.int (i : Nat)) := fun ms B σ H a R q => h ms B σ H a _ fun vs H1 h1 x1 o1 => by
  cases o1 with
  | cons o1 o2 =>
    cases o1; cases o2
    refine ⟨n, rfl, by omega, by omega, q _ H1 h1 x1 ⟨fun _ => True, YFn fun i => .int (0 + i), ?_, fun ms' H2 s => ⟨trivial, fun i x H3 l y => ?_⟩⟩⟩
    · rw [List.length_map, List.length_range]; exact walk_range
    · obtain ⟨rfl, rfl⟩ := y
      refine ⟨Same.refl _, fun d hd => ?_⟩
      rw [List.getElem?_map] at hd
      cases e : (List.range n.toNat)[i]? with
      | none => rw [e] at hd; cases hd
      | some j =>
        rw [e] at hd
        obtain ⟨hl, e'⟩ := List.getElem?_eq_some_iff.mp e
        rw [List.getElem_range] at e'
        subst e'
        cases hd
        show Dp K _ (V.int (0 + _)) _
        rw [Int.zero_add]
        exact .int _
theorem src_range2 {ta : TA} {lo n : Int} (h : EvD K W ta ρ [.int lo, .int n]) (hn : n ≤ 1000000000) (h0 : -1000000000 ≤ n) (hl : lo ≤ 1000000000) (hl0 : -1000000000 ≤ lo) : Src K W (iRng2 ta) ρ ((List.range (n - lo).toNat).map fun i => PyData.int (lo + (i : Nat))) := fun ms B σ H a R q => h ms B σ H a _ fun vs H1 h1 x1 o1 => by
  cases o1 with
  | cons o1 o2 =>
    cases o2 with
    | cons o2 o3 =>
    cases o1; cases o2; cases o3
    refine ⟨lo, n, rfl, by omega, q _ H1 h1 x1 ⟨fun _ => True, YFn fun i => .int (lo + i), ?_, fun ms' H2 s => ⟨trivial, fun i x H3 l y => ?_⟩⟩⟩
    · rw [List.length_map, List.length_range]; exact walk_range
    · obtain ⟨rfl, rfl⟩ := y
      refine ⟨Same.refl _, fun d hd => ?_⟩
      rw [List.getElem?_map] at hd
      cases e : (List.range (n - lo).toNat)[i]? with
      | none => rw [e] at hd; cases hd
      | some j =>
        rw [e] at hd
        obtain ⟨hl, e'⟩ := List.getElem?_eq_some_iff.mp e
        rw [List.getElem_range] at e'
        subst e'
        cases hd
        exact .int _
theorem walk_zipT {a b : Addr} {xs ys : List V} {n : Nat} (hn : n = min xs.length ys.length) : Walk (ItzT K a b) n (fun H => SqT K H a xs ∧ SqT K H b ys) (YPair (fun i => xs[i]?) (fun i => ys[i]?)) := by
  subst hn
  refine ⟨fun i H hi q => ⟨xs, ys, xs[i]'(by omega), ys[i]'(by omega), q.1, q.2, List.getElem?_eq_getElem _, List.getElem?_eq_getElem _⟩, fun H q => ⟨xs, ys, q.1, q.2, by omega⟩, fun i H v H' hi q y => ?_⟩
  obtain ⟨T, x, z, h1, h2, h3, h4, h5⟩ := y
  exact ⟨T, x, z, h1, h2, h3, h4 xs q.1, h5 ys q.2⟩
theorem pair_item {ms : List Addr} {H2 H3 : Hp} {x : V} {vs ws : List V} {ds es : List PyData} {i : Nat} (l : Live ms H2) (ha : DpAll K (cut ms H2) vs ds) (hb : DpAll K (cut ms H2) ws es) (y : YPair (fun i => vs[i]?) (fun i => ws[i]?) i H2 x H3) :
    Same H2 H3 ∧ ∀ d, (List.zipWith (fun a b => PyData.tuple [a, b]) ds es)[i]? = some d → Dp K (cut ms H3) x d := by
  obtain ⟨T, a, b, rfl, hT, rfl, e1, e2⟩ := y
  refine ⟨same_put hT, fun d hd => ?_⟩
  obtain ⟨d1, q1, o1⟩ := dpa_get ha e1
  obtain ⟨d2, q2, o2⟩ := dpa_get hb e2
  rw [List.getElem?_zipWith, q1, q2] at hd
  cases hd
  exact Sl.new_tup (ds := [d1, d2]) l hT (.cons o1 (.cons o2 .nil))
theorem src_zipT {es : List PyData} {ta : TA} (h : EvD K W ta ρ [.tuple ds, .tuple es]) : Src K W (iZipA K ta) ρ (List.zipWith (fun a b => PyData.tuple [a, b]) ds es) := fun ms B σ H a R q => h ms B σ H a _ fun vs H1 h1 x1 o1 => by
  cases o1 with
  | cons o1 o2 =>
    cases o2 with
    | cons o2 o3 =>
      cases o3
      cases o1 with
      | tup hs ha =>
        cases o2 with
        | tup hs2 ha2 =>
          refine ⟨_, _, _, _, rfl, .inr ⟨sqt_mono cut_le hs, sqt_mono cut_le hs2, q _ H1 h1 x1 ⟨_, _, walk_zipT (by rw [List.length_zipWith, dpa_len ha, dpa_len ha2]), fun ms' H2 s => ⟨⟨sqt_mono (s.trans cut_le) hs, sqt_mono (s.trans cut_le) hs2⟩, fun i x H3 l y => ?_⟩⟩⟩⟩
          exact pair_item l (dpa_mono s _ _ ha) (dpa_mono s _ _ ha2) y
theorem src_zipL {es : List PyData} {ta : TA} (h : EvD K W ta ρ [.list ds, .list es]) : Src K W (iZipA K ta) ρ (List.zipWith (fun a b => PyData.tuple [a, b]) ds es) := fun ms B σ H a R q => h ms B σ H a _ fun vs H1 h1 x1 o1 => by
  cases o1 with
  | cons o1 o2 =>
    cases o2 with
    | cons o2 o3 =>
      cases o3
      cases o1 with
      | lst hs ha =>
        cases o2 with
        | lst hs2 ha2 =>
          refine ⟨_, _, _, _, rfl, .inl ⟨sql_mono cut_le hs, sql_mono cut_le hs2, q _ H1 h1 x1 ⟨_, _, walk_zip (by rw [List.length_zipWith, dpa_len ha, dpa_len ha2]), fun ms' H2 s => ⟨⟨sql_mono (s.trans cut_le) hs, sql_mono (s.trans cut_le) hs2⟩, fun i x H3 l y => ?_⟩⟩⟩⟩
          exact pair_item l (dpa_mono s _ _ ha) (dpa_mono s _ _ ha2) y

/-! ### comprehensions -/
theorem cut_new {ms : List Addr} {H : Hp} {l : Addr} (h : H l = none) : Same (cut ms H) (cut (l :: ms) H) := fun a o e => by
  have nm : a ∉ ms := fun z => by rw [cut_in z] at e; cases e
  rw [cut_out nm] at e
  have na : a ≠ l := fun z => by rw [z, h] at e; cases e
  rw [cut_out (by simp [na, nm])]
  exact e
structure LcI (K : PySem.W.Frag) (W : Wd) (ms : List Addr) (H1 : Hp) (ρw : List Sl) (σw : St) (Dl : Addr) (Ψ : Nat → List PyData → Prop) (i : Nat) (H : Hp) : Prop where
  here : At K W (Dl :: ms) ⟨H1, H1⟩ ρw σw H
  acc : ∃ acc es, H Dl = some (.lst acc) ∧ DpAll K (cut (Dl :: ms) H) acc es ∧ acc.length ≤ i ∧ Ψ i es
theorem LcI.same {H1 : Hp} {ρw : List Sl} {σw : St} {Dl : Addr} {Ψ : Nat → List PyData → Prop} {i : Nat} (h : LcI K W ms H1 ρw σw Dl Ψ i H) (s : Same H H') : LcI K W ms H1 ρw σw Dl Ψ i H' := by
  obtain ⟨acc, es, e1, e2, e3, e4⟩ := h.acc
  exact ⟨h.here.same s, acc, es, s _ _ e1, dpa_mono ((XW.of_same (ws := W.ws) s).cut h.here.sub) _ _ e2, e3, e4⟩
theorem lc_turn {H1 : Hp} {ρw ρ2 : List Sl} {σw σ2 : St} {Dl : Addr} {Ψ : Nat → List PyData → Prop} {i : Nat} {b : Bool} {Φ : PyData → Prop} (h : LcI K W ms H1 ρw σw Dl Ψ i H) (hD : H1 Dl = none) (hw : Dl ∉ W.ws) (hi : i < 16000000)
    (h2 : At K W (Dl :: ms) ⟨H1, H1⟩ ρ2 σ2 H) (ht : EvT K W tt ρ2 b) (he : b = true → En K W te ρ2 fun s => ∃ d, s = .dat d ∧ Φ d)
    (st1 : b = true → ∀ es d, Ψ i es → Φ d → Ψ (i + 1) (es ++ [d])) (st0 : b = false → ∀ es, Ψ i es → Ψ (i + 1) es) :
    tt σ2 H fun b H3 => if b = true then te σ2 H3 fun y H4 => ∃ acc, H4 Dl = some (.lst acc) ∧ acc.length < sizeLine ∧ LcI K W ms H1 ρw σw Dl Ψ (i + 1) (upd H4 Dl (.lst (acc ++ [y]))) else LcI K W ms H1 ρw σw Dl Ψ (i + 1) H3 := by
  obtain ⟨acc, es, e1, e2, e3, e4⟩ := h.acc
  refine ht _ _ _ _ h2 _ fun H3 g3 x3 => ?_
  cases b with
  | true =>
    refine iteT (he rfl _ _ _ _ g3 _ fun s' y H4 φ g4 x4 o4 => ?_)
    obtain ⟨d, rfl, φ⟩ := φ
    have x34 := x3.trans x4
    refine ⟨acc, x34 _ _ hw e1, Nat.lt_of_le_of_lt e3 (Nat.lt_trans hi (by decide)), (h.here.go x34 g4.live g4.p).write List.mem_cons_self hw hD, acc ++ [y], es ++ [d], upd_same, ?_, by rw [List.length_append, List.length_singleton]; omega, st1 rfl es d e4 φ⟩
    exact dpa_snoc (dpa_mono ((x34.cut h.here.sub).trans cut_drop) _ _ e2) (dp_mono cut_drop _ _ o4)
  | false =>
    refine iteF ?_
    exact ⟨h.here.go x3 g3.live g3.p, acc, es, x3 _ _ hw e1, dpa_mono (x3.cut h.here.sub) _ _ e2, by omega, st0 rfl es e4⟩
theorem take_more {α : Type} {xs : List α} {i : Nat} {x : α} (h : xs[i]? = some x) : xs.take (i + 1) = xs.take i ++ [x] := by
  rw [List.take_add_one, h]
  rfl
/-- .. to a new list -/
def EvF (K : PySem.W.Frag) (W : Wd) (te : TE) (ρ : List Sl) (Φ : List PyData → Prop) : Prop :=
  ∀ (ms : List Addr) (B : Bs) (σ : St) (H : Hp), At K W ms B ρ σ H → ∀ Q : VK, (∀ ds p vs H', Φ ds → At K W ms B ρ σ H' → XW W.ws H H' → H p = none → H' p = some (.lst vs) → DpAll K (cut (p :: ms) H') vs ds → Q (.ref p) H') → te σ H Q
theorem EvF.imp {Φ Φ' : List PyData → Prop} (h : EvF K W te ρ Φ) (i : ∀ ds, Φ ds → Φ' ds) : EvF K W te ρ Φ' := fun ms B σ H g Q q => h ms B σ H g Q fun ds p vs H' φ => q ds p vs H' (i ds φ)
theorem en_of_ef {Φ : List PyData → Prop} (h : EvF K W te ρ Φ) : En K W te ρ fun s => ∃ ds, s = .dat (.list ds) ∧ Φ ds := fun ms B σ H g Q q => h ms B σ H g Q fun ds p vs H' φ g' x hp e o =>
  q (.dat (.list ds)) (.ref p) H' ⟨ds, rfl, φ⟩ g' x (.lst (.inl (.inl (by rw [cut_out (g.live.fresh hp)]; exact e))) (dpa_mono cut_cons _ _ o))
theorem ef_lc {α : Type} {xs : List α} {enc : α → PyData} {p : α → Bool} {Φ : α → PyData → Prop} {vs : List Nat} {S : α → List Sl} (sr : Src K W wi ρ (xs.map enc)) (hz : xs.length ≤ 16000000)
    (tg : ∀ x ∈ xs, ∃ js, Tg K W g js (enc x) (wipeR ρ vs) (S x) ∧ ∀ j ∈ js, j ∈ vs) (ht : ∀ x ∈ xs, EvT K W tt (S x) (p x)) (he : ∀ x ∈ xs, p x = true → En K W te (S x) fun s => ∃ d, s = .dat d ∧ Φ x d) :
    EvF K W (tLc wi g tt te vs) ρ fun es => Paired Φ (xs.filter p) es := fun ms B σ H_ a Q q => sr ms B σ H_ a _ fun J H1 h1 x1 stm => by
  obtain ⟨G, Y, wk, st⟩ := stm
  intro Dl hD
  obtain ⟨_, hm, hw⟩ := h1.fresh hD
  have data : ∀ {i : Nat} {H : Hp}, LcI K W ms H1 (wipeR ρ vs) (wipe σ vs) Dl (fun i es => Paired Φ ((xs.take i).filter p) es) i H → Same (cut ms H1) (cut (Dl :: ms) H) := fun {i H} l => (cut_new hD).trans l.here.st
  refine lc_it wk (LcI K W ms H1 (wipeR ρ vs) (wipe σ vs) Dl fun i es => Paired Φ ((xs.take i).filter p) es) ?_ (fun i H _ l => (st _ H (data l)).1) (fun i x H H' hi l y => ?_) fun H l => ?_
  · exact ⟨(h1.base.own hD).wipe vs, [], [], upd_same, .nil, Nat.le_refl _, .nil⟩
  · obtain ⟨s, hd⟩ := (st _ H (data l)).2 i x H' l.here.live y
    have hi' : i < xs.length := by rw [List.length_map] at hi; exact hi
    have hx : xs[i]? = some xs[i] := List.getElem?_eq_getElem hi'
    have hmem : xs[i] ∈ xs := List.getElem_mem hi'
    have o := hd (enc xs[i]) (by rw [List.getElem?_map, hx]; rfl)
    have l' := l.same s
    obtain ⟨js, tj, sub⟩ := tg _ hmem
    refine tj _ _ _ _ x l'.here o _ fun σ2 h2 df => ⟨wipe_diff df sub, ?_⟩
    refine lc_turn l' hD hw (by omega) h2 (ht _ hmem) (he _ hmem) (fun hb es d ψ φ => ?_) fun hb es ψ => ?_
    · rw [take_more hx, List.filter_append, List.filter_cons_of_pos hb]
      exact ψ.snoc φ
    · rw [take_more hx, List.filter_append, List.filter_cons_of_neg (by rw [hb]; decide)]
      show Paired Φ (_ ++ []) es
      rw [List.append_nil]
      exact ψ
  · obtain ⟨acc, es, e1, e2, e3, e4⟩ := l.acc
    rw [List.length_map, List.take_length] at e4
    refine q es Dl acc H e4 (h1.back l.here rfl fun a z => List.mem_cons_of_mem _ z) (x1.trans l.here.xw) ?_ e1 e2
    cases q : H_ Dl with
    | none => rfl
    | some o => rw [x1 Dl o hw q] at hD; cases hD
theorem en_lc {α : Type} {xs : List α} {enc : α → PyData} {p : α → Bool} {Φ : α → PyData → Prop} {vs : List Nat} {S : α → List Sl} (sr : Src K W wi ρ (xs.map enc)) (hz : xs.length ≤ 16000000)
    (tg : ∀ x ∈ xs, ∃ js, Tg K W g js (enc x) (wipeR ρ vs) (S x) ∧ ∀ j ∈ js, j ∈ vs) (ht : ∀ x ∈ xs, EvT K W tt (S x) (p x)) (he : ∀ x ∈ xs, p x = true → En K W te (S x) fun s => ∃ d, s = .dat d ∧ Φ x d) :
    En K W (tLc wi g tt te vs) ρ fun s => ∃ es, s = .dat (.list es) ∧ Paired Φ (xs.filter p) es := en_of_ef (ef_lc sr hz tg ht he)
theorem paired_map {α : Type} {f : α → PyData} : ∀ {xs : List α} {es : List PyData}, Paired (fun x d => d = f x) xs es → es = xs.map f
  | _, _, .nil => rfl
  | _, _, .cons h t => by rw [List.map_cons, ← h, paired_map t]
theorem ev_of_en {d : PyData} (h : En K W te ρ fun s => s = .dat d) : Evd K W te ρ d := fun ms B σ H a Q q => h ms B σ H a Q fun s v H1 e g x o => by
  subst e
  exact q v H1 g x o
theorem en_of_ev {Φ : Sl → Prop} (h : Ev K W te ρ s) (φ : Φ s) : En K W te ρ Φ := fun ms B σ H a Q q => h ms B σ H a Q fun v H1 g x o => q s v H1 φ g x o
theorem En.imp {Φ Φ' : Sl → Prop} (h : En K W te ρ Φ) (i : ∀ s, Φ s → Φ' s) : En K W te ρ Φ' := fun ms B σ H a Q q => h ms B σ H a Q fun s v H1 e g x o => q s v H1 (i s e) g x o
theorem ev_lc {α : Type} {xs : List α} {enc f : α → PyData} {p : α → Bool} {vs : List Nat} {S : α → List Sl} (sr : Src K W wi ρ (xs.map enc)) (hz : xs.length ≤ 16000000)
    (tg : ∀ x ∈ xs, ∃ js, Tg K W g js (enc x) (wipeR ρ vs) (S x) ∧ ∀ j ∈ js, j ∈ vs) (ht : ∀ x ∈ xs, EvT K W tt (S x) (p x)) (he : ∀ x ∈ xs, p x = true → Evd K W te (S x) (f x)) :
    Evd K W (tLc wi g tt te vs) ρ (.list ((xs.filter p).map f)) :=
  ev_of_en ((en_lc (Φ := fun x d => d = f x) sr hz tg ht fun x hx hp => en_of_ev (he x hx hp) ⟨_, rfl, rfl⟩).imp fun s ⟨es, e, pr⟩ => by rw [e, paired_map pr])
/-- no test, the target a name -/
theorem ev_lc0 {α : Type} {xs : List α} {enc f : α → PyData} {j : Nat} (sr : Src K W wi ρ (xs.map enc)) (hz : xs.length ≤ 16000000) (he : ∀ x ∈ xs, Evd K W te ((ρ.set j .emp).set j (.dat (enc x))) (f x)) :
    Evd K W (tLc wi (gName j) tYes te [j]) ρ (.list (xs.map f)) := by
  have h := ev_lc (K := K) (W := W) (g := gName j) (tt := tYes) (te := te) (p := fun _ => true) (f := f) (vs := [j]) (S := fun x => (ρ.set j .emp).set j (.dat (enc x))) sr hz (fun x _ => ⟨[j], tg_name, fun _ z => z⟩) (fun _ _ => et_yes) fun x hx _ => he x hx
  rw [List.filter_eq_self.mpr fun _ _ => rfl] at h
  exact h
theorem ev_lc1 {α : Type} {xs : List α} {enc f : α → PyData} {p : α → Bool} {j : Nat} (sr : Src K W wi ρ (xs.map enc)) (hz : xs.length ≤ 16000000) (ht : ∀ x ∈ xs, EvT K W tt ((ρ.set j .emp).set j (.dat (enc x))) (p x)) (he : ∀ x ∈ xs, p x = true → Evd K W te ((ρ.set j .emp).set j (.dat (enc x))) (f x)) :
    Evd K W (tLc wi (gName j) tt te [j]) ρ (.list ((xs.filter p).map f)) :=
  ev_lc (vs := [j]) (S := fun x => (ρ.set j .emp).set j (.dat (enc x))) sr hz (fun x _ => ⟨[j], tg_name, fun _ z => z⟩) ht he

/-! ### statements -/
theorem s_asg {i : Nat} (h : At K W ms B ρ σ H) (e : Ev K W te ρ s) (k : ∀ σ' H', At K W ms B (ρ.set i s) σ' H' → XW W.ws H H' → D.nx σ' H') : tAsg te (gName i) D σ H :=
  e ms B σ H h _ fun v H1 h1 x1 o1 => k _ H1 (h1.set o1 i) x1
theorem q_asg {i : Nat} (h : At K W ms B ρ σ H) (e : Ev K W te ρ s) (k : ∀ σ' H', At K W ms B (ρ.set i s) σ' H' → XW W.ws H H' → tz D σ' H') : tSeq (tAsg te (gName i)) tz D σ H :=
  s_asg (D := { D with nx := tz D }) h e k
theorem s_tgt {js : List Nat} (h : At K W ms B ρ σ H) (e : Evd K W te ρ d) (tj : Tg K W g js d ρ ρ') (k : ∀ σ' H', At K W ms B ρ' σ' H' → XW W.ws H H' → D.nx σ' H') : tAsg te g D σ H :=
  e ms B σ H h _ fun v H1 h1 x1 o1 => tj ms B σ H1 v h1 o1 _ fun σ' h' _ => k σ' H1 h' x1
theorem q_tgt {js : List Nat} (h : At K W ms B ρ σ H) (e : Evd K W te ρ d) (tj : Tg K W g js d ρ ρ') (k : ∀ σ' H', At K W ms B ρ' σ' H' → XW W.ws H H' → tz D σ' H') : tSeq (tAsg te g) tz D σ H :=
  s_tgt (D := { D with nx := tz D }) h e tj k
theorem s_drop (h : At K W ms B ρ σ H) (e : Ev K W te ρ s) (k : ∀ H', At K W ms B ρ σ H' → XW W.ws H H' → D.nx σ H') : tDrop te D σ H := e ms B σ H h _ fun v H1 h1 x1 _ => k H1 h1 x1
theorem q_drop (h : At K W ms B ρ σ H) (e : Ev K W te ρ s) (k : ∀ H', At K W ms B ρ σ H' → XW W.ws H H' → tz D σ H') : tSeq (tDrop te) tz D σ H := s_drop (D := { D with nx := tz D }) h e k
theorem s_ret (h : At K W ms B ρ σ H) (e : Ev K W te ρ s) (k : ∀ v H', At K W ms B ρ σ H' → XW W.ws H H' → s.ok K (cut ms H') v → D.rt v H') : tRet te D σ H := e ms B σ H h _ k
theorem s_if {b : Bool} (h : At K W ms B ρ σ H) (e : EvT K W tt ρ b) (k1 : b = true → ∀ H', At K W ms B ρ σ H' → XW W.ws H H' → ts D σ H') (k2 : b = false → ∀ H', At K W ms B ρ σ H' → XW W.ws H H' → ts' D σ H') : tIfS tt ts ts' D σ H :=
  e ms B σ H h _ fun H1 h1 x1 => by
    cases b with
    | true => exact iteT (k1 rfl H1 h1 x1)
    | false => exact iteF (k2 rfl H1 h1 x1)
theorem q_if {b : Bool} (h : At K W ms B ρ σ H) (e : EvT K W tt ρ b) (k1 : b = true → ∀ H', At K W ms B ρ σ H' → XW W.ws H H' → ts { D with nx := tz D } σ H') (k2 : b = false → ∀ H', At K W ms B ρ σ H' → XW W.ws H H' → ts' { D with nx := tz D } σ H') : tSeq (tIfS tt ts ts') tz D σ H :=
  s_if (D := { D with nx := tz D }) h e k1 k2
theorem q_when {b : Bool} (h : At K W ms B ρ σ H) (e : EvT K W tt ρ b) (k1 : b = true → ∀ H', At K W ms B ρ σ H' → XW W.ws H H' → ts { D with nx := tz D } σ H') (k2 : b = false → ∀ H', At K W ms B ρ σ H' → XW W.ws H H' → tz D σ H') : tSeq (tIfS tt ts tNext) tz D σ H :=
  s_if (D := { D with nx := tz D }) h e k1 k2
theorem s_par {i j : Nat} {ta : TA} {s1 s2 : Sl} (h : At K W ms B ρ σ H) (e : EvA K W ta ρ [s1, s2]) (k : ∀ σ' H', At K W ms B ((ρ.set i s1).set j s2) σ' H' → XW W.ws H H' → D.nx σ' H') : tPar i j ta D σ H :=
  e ms B σ H h _ fun vs H1 h1 x1 o1 => by
    cases o1 with
    | cons o1 o2 =>
      cases o2 with
      | cons o2 o3 =>
        cases o3
        exact ⟨_, _, rfl, k _ H1 ((h1.set o1 i).set o2 j) x1⟩
theorem q_par {i j : Nat} {ta : TA} {s1 s2 : Sl} (h : At K W ms B ρ σ H) (e : EvA K W ta ρ [s1, s2]) (k : ∀ σ' H', At K W ms B ((ρ.set i s1).set j s2) σ' H' → XW W.ws H H' → tz D σ' H') : tSeq (tPar i j ta) tz D σ H :=
  s_par (D := { D with nx := tz D }) h e k
/-- a new list of one's own -/
theorem q_own {i : Nat} {ta : TA} (h : At K W ms B ρ σ H) (e : EvD K W ta ρ ds) (hl : ds.length ≤ 100000)
    (k : ∀ l vs σ' H', At K W (l :: ms) B (ρ.set i (.raw (.ref l))) σ' H' → H' l = some (.lst vs) → DpAll K (cut (l :: ms) H') vs ds → B.h0 l = none → l ∉ ms → l ∉ W.ws → tz D σ' H') : tSeq (tAsg (tLst ta) (gName i)) tz D σ H :=
  e ms B σ H h _ fun vs H1 h1 x1 o1 => ⟨by rw [dpa_len o1]; exact le_line hl, fun p hp => by
    obtain ⟨h0, hm, hw⟩ := h1.fresh hp
    exact k p vs _ _ ((h1.own hp).set (s := .raw (.ref p)) rfl i) upd_same (dpa_mono ((cut_new hp).trans cut_drop) _ _ o1) h0 hm hw⟩
/-- the for -/
theorem s_for {R S : Nat → List Sl} {X : Nat → Hp → Prop} (h : At K W ms B ρ σ H) (sr : Src K W wi ρ ds) (l0 : Le (R 0) ρ) (x0 : ∀ H1, At K W ms B ρ σ H1 → XW W.ws H H1 → X 0 H1) (xm : ∀ i H H', Same H H' → At K W ms B (R i) σ H → X i H → X i H')
    (tg : ∀ i d, ds[i]? = some d → ∃ js, Tg K W g js d (R i) (S i))
    (hs : ∀ Hb i d σ' H', ds[i]? = some d → At K W ms ⟨B.h0, Hb⟩ (S i) σ' H' → X i H' → ts { D with nx := fun σ H => At K W ms ⟨B.h0, Hb⟩ (R (i + 1)) σ H ∧ X (i + 1) H, ct := fun σ H => At K W ms ⟨B.h0, Hb⟩ (R (i + 1)) σ H ∧ X (i + 1) H, bk := D.nx } σ' H')
    (hd : ∀ σ' H', At K W ms B (R ds.length) σ' H' → X ds.length H' → D.nx σ' H') (xs : ∀ i H H', Same H H' → Live ms H → X i H → X i H') : tFor wi g ts D σ H := sr ms B σ H h _ fun J H1 h1 x1 stm => by
  obtain ⟨G, Y, wk, st⟩ := stm
  refine for_it wk (fun i σ H => At K W ms ⟨B.h0, H1⟩ (R i) σ H ∧ X i H) ⟨h1.re.le l0, x0 H1 h1 x1⟩ (fun i σ H _ p => (st ms H p.1.st).1) (fun i x σ H H' hi p y => ?_) fun σ H p => hd σ H (h1.un p.1) p.2
  obtain ⟨s, hdt⟩ := (st ms H p.1.st).2 i x H' p.1.live y
  have hx : ds[i]? = some ds[i] := List.getElem?_eq_getElem hi
  obtain ⟨js, tj⟩ := tg i _ hx
  exact tj ms _ σ H' x (p.1.same s) (hdt _ hx) _ fun σ2 h2 _ => hs H1 i _ σ2 H' hx h2 (xs i H H' s p.1.live p.2)

/-! ### defs that only read -/
def spP (K : PySem.W.Frag) (G : List PyData → PyData → Prop) : Sp := fun vs H Q _ => ∃ (ms : List Addr) (ds : List PyData) (d : PyData), Live ms H ∧ DpAll K (cut ms H) vs ds ∧ G ds d ∧ ∀ v H', Same H H' → Dp K (cut ms H') v d → Q v H'
theorem ev_call {G : List PyData → PyData → Prop} {ta : TA} {E : XK} (h : EvD K W ta ρ ds) (hg : G ds d) : Evd K W (tCall (spP K G) [] E ta) ρ d := fun ms B σ H a Q q => h ms B σ H a _ fun vs H1 h1 x1 o1 => by
  show spP K G (vs ++ []) H1 Q E
  rw [List.append_nil]
  exact ⟨ms, ds, d, h1.live, o1, hg, fun v H2 s2 o2 => q v H2 (h1.same s2) (x1.trans (.of_same s2)) o2⟩
def Runs (K : PySem.W.Frag) (t : TS) (ρ : List Sl) (d : PyData) : Prop :=
  ∀ (ms : List Addr) (σ : St) (H : Hp) (Q : VK), At K W0 ms ⟨H, H⟩ ρ σ H → (∀ v H', At K W0 ms ⟨H, H⟩ [] [] H' → Dp K (cut ms H') v d → Q v H') → t { nx := fun _ H' => Q .non H', rt := Q } σ H
def slots (n : Nat) (ds : List PyData) : List Sl := ds.map .dat ++ List.replicate (n - ds.length) .emp
theorem At.nil (h : At K W ms B ρ σ H) : At K W ms B [] [] H := ⟨h.sub, h.live, .nil, h.p, h.xw, h.st, h.c⟩
theorem env_args : ∀ {vs : List V} {ds : List PyData}, DpAll K H vs ds → EnvOk K H (ds.map .dat) (vs.map some)
  | _, [], h => by cases h; exact .nil
  | _, d :: ds, h => by
    cases h with
    | cons h1 h2 => exact .cons h1 (env_args h2)
theorem at_start {N : List Str} {vs : List V} (l : Live ms H) (h : DpAll K (cut ms H) vs ds) : At K W0 ms ⟨H, H⟩ (slots N.length ds) (L2.start N vs) H :=
  ⟨fun _ z => (by cases z), l, by unfold slots L2.start; rw [dpa_len h]; exact EnvOk.app (env_args h) (EnvOk.emp _), trivial, .refl H, Same.refl _, trivial⟩
section
variable {P : Program} {w : World} {mg : Str → Option Value} {base : Heap}
theorem pureOk {x qual : Str} {st : Stmt} {f : Addr} {fd : FuncData} {N ps : List Str} {k : Nat} {G : List PyData → PyData → Prop} (F : Fun K x qual st f fd) (S : FnScope N ps (defScope st)) (hG : ∀ ds d, G ds d → ds.length = ps.length)
    (hb : ∀ (cdv : Value) (A : Around) (outer : List Env) (s : Shared) (H : Hp) (E : XK), Room k (A.deeper (envOfC qual (defScope st) s.heap.objs.size f cdv)) →
      ∃ t, PSs (cxOf CX0 P w K mg base N qual (defScope st) f cdv A outer s H E).nox (defBody st) t ∧ ∀ ds d, G ds d → Runs K t (slots N.length ds) d) : FnOk P w K mg base CX0 (k + 1) f fd ps (spP K G) := by
  refine F.ok S (fun vs H Q E h => ?_) fun cdv A outer s H vs Q E hr h => ?_
  · obtain ⟨ms, ds, d, l, o, g, _⟩ := h
    rw [dpa_len o, hG ds d g]
  · obtain ⟨ms, ds, d, l, o, g, q⟩ := h
    obtain ⟨t, ht, hr⟩ := hb cdv A outer s H E hr
    exact ⟨t, ht, hr ds d g ms _ H Q (at_start l o) fun v H' a od => q v H' a.xw.same od⟩
end
end
end Fw

/-! The frame, 4: further rules (a list or a tuple walked, keywords alone, xs[i] op= e, repr of data). -/
namespace Fw
open PySem L2
open PyProof.Rows (envOfC)

section
variable {X : Cx} {tg l : Expr} {tl : TE}
/-- a list or a tuple is walked -/
def iSeq (K : PySem.W.Frag) (tl : TE) : TI := fun σ H R => tl σ H fun x H1 => ∃ a, x = .ref a ∧ (((∃ xs, SqL K H1 a xs) ∧ R (Itl K a) H1) ∨ ((∃ xs, SqT K H1 a xs) ∧ R (Itt K a) H1))
theorem pi_seq (hl : PE X l tl) : PI X tg l (iSeq X.K tl) := ⟨fun pins s σ H R I h => by
  refine thn (hl.run pins s σ H _ I h) fun w sa hw => ?_
  obtain ⟨x, Ha, Ia, rx, a, ex, q⟩ := hw
  subst ex
  cases rx
  have kp : ∀ ob : Obj, Inv X pins σ Ha { sa with heap := sa.heap.push ob, toks := sa.toks } := fun ob => Ia.kept (t' := sa.toks) fun b o e => Heap.get?_push_of_some ob e
  have fp : ∀ b ∈ [sa.heap.objs.size], FpOk X pins Ha b := fun b hb => by
    rw [List.mem_singleton.mp hb]
    exact Ia.fpOk (Nat.le_refl _) (Ia.hok.fresh (Nat.le_refl _))
  rcases q with ⟨⟨xs, hq⟩, q⟩ | ⟨⟨xs, hq⟩, q⟩
  · obtain ⟨its, _, p, _⟩ := Ia.list hq
    exact wpAny_pyIter_list p.isList ⟨_, [sa.heap.objs.size], _, _, Ha, rfl, kp _, turn_list a _, ⟨_, Heap.get?_push_size _ rfl, rfl, rfl⟩, fp, q⟩
  · obtain ⟨its, _, p, _⟩ := Ia.tuple hq
    exact wpAny_pyIter_tuple (show sa.heap.IsTuple a its.toArray from p) ⟨_, [sa.heap.objs.size], _, _, Ha, rfl, kp _, turn_tuple a _, ⟨_, Heap.get?_push_size _ rfl, rfl, rfl⟩, fp, q⟩⟩
/-- xs[j], by values, j not negative -/
def rGetL (K : PySem.W.Frag) : V → V → Hp → VK → Prop := fun x y H Q => ∃ (p : Addr) (xs : List V) (j : Nat) (v : V), x = .ref p ∧ y = .int (j : Int) ∧ SqL K H p xs ∧ j < 1000000 ∧ xs[j]? = some v ∧ Q v H
theorem pget_list : PGet X (rGetL X.K) := fun pins s σ H x y v u Q I rx ry h => by
  obtain ⟨p, xs, j, z, rfl, rfl, hq, hj, e, q⟩ := h
  cases rx
  obtain ⟨tk, rfl⟩ := ry
  obtain ⟨its, r, pl, _⟩ := I.list hq
  obtain ⟨w, ew, rw'⟩ := r.get e
  exact wpAny_getItem_list pl.isList (by omega) (by omega) (by simpa using ew) ⟨z, H, I, rw', q⟩
/-- f(k = v, ..), keywords alone -/
theorem pe_fnK {x : Str} {p pos : Pos} {kws : List Keyword} {tk : TA} {k : Nat} {f : Addr} {fd : FuncData} {ps ks : List Str} {sp : Sp} {g : List Value → List Value → List Value} {gV : List V → List V → List V}
    (F : FnOk X.prog X.w X.K X.mg X.base CX0 k f fd ps sp) (hr : Room k X.A) (hg : Gl X x) (hm : X.mg x = some (.ref f)) (hk : PySem.W.keepIn X.K (.ref f) = true) (hb : KBinds X.K fd ps ks g gV) (hkw : PK X kws tk)
    (ha : (backToKw pos (keywordEach kws X.env)).all (·.1.isSome) = true := by rfl) (hn : (backToKw pos (keywordEach kws X.env)).filterMap (·.1) = ks := by rfl)
    (hd : (x == ("__debug__" : Str)) = false := by decide) (hp : ((backTo pos (starEach [] X.env)).any (·.1) || (backToKw pos (keywordEach kws X.env)).any (·.1.isNone)) = false := by rfl) :
    PE X (.Call (.Name x p) [] kws pos) (tCallK sp gV E0 tNil tk) := ⟨fun pins s σ H Q I h => by
  refine wpAny_Call_Name_kw (ld_glob I hg hm (PySem.W.callWith_KW0 (h₀ := X.base) I.ok.mod.kin hk ha (thn (hkw.run pos pins s σ H _ I h) fun ws sb hz => ?_) hp) hd)
  obtain ⟨zs, Hb, Ib, rz, qz⟩ := hz
  refine ⟨Ib.kIn, ?_⟩
  rw [hn]
  exact run_fnk (us := []) (vs := []) F hr hb pass0 Ib .nil rz qz⟩
/-- repr of a list or a tuple of data -/
def rReprD (K : PySem.W.Frag) : List V → Hp → VK → Prop := fun vs H Q => ∃ (a : Addr) (d : PyData), vs = [.ref a] ∧ Dp K H (.ref a) d ∧ d.showable = true ∧ d.hasDict = false ∧ d.depth ≤ 60 ∧ d.shown.length ≤ sizeLine ∧ Q (.str d.shown) H
theorem cr_reprD (hg : X.A.guards = some []) (hu : X.A.units + 64 < cLine) : CallR X (.builtin "repr") (rReprD X.K) := fun pins s σ H xs us Q I r h => by
  obtain ⟨a, d, rfl, hd, hs, hn, hz, hl, q⟩ := h
  obtain ⟨u, rfl, ru⟩ := vals1 r
  obtain ⟨as, rd⟩ := Dp.reads I d _ u hd ru
  cases ru
  exact PySem.repr_of_reads' rd hs (fun z => absurd z (by rw [hn]; decide)) hg (by omega) (fun b o e => e) (fun h' u' tk kp => ⟨.str _, H, I.kept (t' := tk) kp, ⟨u', rfl⟩, q⟩) hl
end

section
variable {K : PySem.W.Frag} {W : Wd} {ρ : List Sl} {d : PyData} {ds : List PyData} {tl te ta tb : TE}
theorem src_seqL (h : Evd K W tl ρ (.list ds)) : Src K W (iSeq K tl) ρ ds := fun ms B σ H a R q => h ms B σ H a _ fun v H1 h1 x1 o1 => by
  cases o1 with
  | @lst p vs _ hs ha =>
    refine ⟨p, rfl, .inl ⟨⟨vs, sql_mono cut_le hs⟩, q _ H1 h1 x1 ⟨fun H => SqL K H p vs, YAt vs, ?_, fun ms' H2 s => ⟨sql_mono (s.trans cut_le) hs, fun i x H3 l y => ?_⟩⟩⟩⟩
    · rw [← dpa_len ha]; exact walk_list
    · obtain ⟨rfl, e⟩ := y
      refine ⟨Same.refl _, fun d hd => ?_⟩
      obtain ⟨d', e', o⟩ := dpa_get ha e
      rw [hd] at e'
      cases e'
      exact dp_mono s _ _ o
theorem src_seqT (h : Evd K W tl ρ (.tuple ds)) : Src K W (iSeq K tl) ρ ds := fun ms B σ H a R q => h ms B σ H a _ fun v H1 h1 x1 o1 => by
  cases o1 with
  | @tup p vs _ hs ha =>
    refine ⟨p, rfl, .inr ⟨⟨vs, sqt_mono cut_le hs⟩, q _ H1 h1 x1 ⟨fun H => SqT K H p vs, YAt vs, ?_, fun ms' H2 s => ⟨sqt_mono (s.trans cut_le) hs, fun i x H3 l y => ?_⟩⟩⟩⟩
    · rw [← dpa_len ha]; exact walk_tup
    · obtain ⟨rfl, e⟩ := y
      refine ⟨Same.refl _, fun d hd => ?_⟩
      obtain ⟨d', e', o⟩ := dpa_get ha e
      rw [hd] at e'
      cases e'
      exact dp_mono s _ _ o
/-- data that is a list or a tuple -/
def sq (b : Bool) (ds : List PyData) : PyData := if b then .list ds else .tuple ds
theorem src_seq {b : Bool} (h : Evd K W tl ρ (sq b ds)) : Src K W (iSeq K tl) ρ ds := by
  cases b with
  | true => exact src_seqL h
  | false => exact src_seqT h
theorem ev_lenS {b : Bool} (h : Evd K W te ρ (sq b ds)) : Evd K W (tCB (rLenQ K) (tCons te tNil)) ρ (.int (ds.length : Int)) := by
  cases b with
  | true => exact ev_lenL h
  | false => exact ev_lenT h
theorem ev_ixS {b : Bool} {i : Int} (ha : Evd K W ta ρ (sq b ds)) (hb : Evd K W tb ρ (.int i)) (h : atI ds i = some d) : Evd K W (tOp (rIx K) ta tb) ρ d := ev_op ha hb fun ms H x y l hx hy Q q => by
  cases b with
  | true => exact .inl (rs_ixL h ms H x y l hx hy Q q)
  | false => exact .inr (.inl (rs_ixT h ms H x y l hx hy Q q))
theorem ev_isiLT {b : Bool} (h : Evd K W te ρ (sq b ds)) : Evd K W (tCB (rIsiT K) (tCons te (tCons (tTup (tCons (tC (.ty "list")) (tCons (tC (.ty "tuple")) tNil))) tNil))) ρ (.bool true) := by
  cases b with
  | true =>
    refine ev_isi2 h ?_
    have e : PySem.W.kitOne K (.type "list") (.type "list") = some true := kit_ty (by decide +kernel)
    show PySem.W.kitAny K (.type "list") _ = _
    unfold PySem.W.kitAny
    rw [e]
  | false =>
    refine ev_isi2 h ?_
    have e : PySem.W.kitOne K (.type "tuple") (.type "list") = some false := kit_ty (by decide +kernel)
    have e2 : PySem.W.kitOne K (.type "tuple") (.type "tuple") = some true := kit_ty (by decide +kernel)
    show PySem.W.kitAny K (.type "tuple") _ = _
    unfold PySem.W.kitAny
    rw [e]
    show PySem.W.kitAny K (.type "tuple") _ = _
    unfold PySem.W.kitAny
    rw [e2]
theorem ev_repr {te : TE} (h : Evd K W te ρ d) (hs : d.showable = true) (hn : d.hasDict = false) (hz : d.depth ≤ 60) (hl : d.shown.length ≤ sizeLine) (hr : (∃ ds, d = .list ds) ∨ ∃ ds, d = .tuple ds) : Evd K W (tCB (rReprD K) (tCons te tNil)) ρ (.str d.shown) :=
  ev_cb (ed_cons h ed_nil) (rc1 fun ms H v l o Q q => by
    have o' := dp_mono cut_le _ _ o
    rcases hr with ⟨ds, rfl⟩ | ⟨ds, rfl⟩
    · cases o' with
      | lst h1 h2 => exact ⟨_, _, rfl, .lst h1 h2, hs, hn, hz, hl, q _ H (Same.refl H) (.str _)⟩
    · cases o' with
      | tup h1 h2 => exact ⟨_, _, rfl, .tup h1 h2, hs, hn, hz, hl, q _ H (Same.refl H) (.str _)⟩)
/-- keywords alone, put in the parameters' order -/
theorem ev_callK {G : List PyData → PyData → Prop} {tk : TA} {gV : List V → List V → List V} {gD : List PyData → List PyData} {E : XK} (h : EvD K W tk ρ ds) (hg : G (gD ds) d) (hp : ∀ (H : Hp) (vs : List V), DpAll K H vs ds → DpAll K H (gV [] vs) (gD ds)) : Evd K W (tCallK (spP K G) gV E tNil tk) ρ d := fun ms B σ H a Q q => h ms B σ H a _ fun vs H1 h1 x1 o1 =>
  ⟨ms, gD ds, d, h1.live, hp _ _ o1, hg, fun v H2 s2 o2 => q v H2 (h1.same s2) (x1.trans (.of_same s2)) o2⟩
end
theorem kb_NoneType_bool : kitB "NoneType" "bool" = some false := by decide +kernel
theorem kb_NoneType_int : kitB "NoneType" "int" = some false := by decide +kernel
theorem kb_NoneType_str : kitB "NoneType" "str" = some false := by decide +kernel
theorem kb_NoneType_list : kitB "NoneType" "list" = some false := by decide +kernel
theorem kb_NoneType_tuple : kitB "NoneType" "tuple" = some false := by decide +kernel
theorem kb_NoneType_dict : kitB "NoneType" "dict" = some false := by decide +kernel
theorem kb_bool_bool : kitB "bool" "bool" = some true := by decide +kernel
theorem kb_bool_int : kitB "bool" "int" = some true := by decide +kernel
theorem kb_bool_str : kitB "bool" "str" = some false := by decide +kernel
theorem kb_bool_list : kitB "bool" "list" = some false := by decide +kernel
theorem kb_bool_tuple : kitB "bool" "tuple" = some false := by decide +kernel
theorem kb_bool_dict : kitB "bool" "dict" = some false := by decide +kernel
theorem kb_int_bool : kitB "int" "bool" = some false := by decide +kernel
theorem kb_int_int : kitB "int" "int" = some true := by decide +kernel
theorem kb_int_str : kitB "int" "str" = some false := by decide +kernel
theorem kb_int_list : kitB "int" "list" = some false := by decide +kernel
theorem kb_int_tuple : kitB "int" "tuple" = some false := by decide +kernel
theorem kb_int_dict : kitB "int" "dict" = some false := by decide +kernel
theorem kb_str_bool : kitB "str" "bool" = some false := by decide +kernel
theorem kb_str_int : kitB "str" "int" = some false := by decide +kernel
theorem kb_str_str : kitB "str" "str" = some true := by decide +kernel
theorem kb_str_list : kitB "str" "list" = some false := by decide +kernel
theorem kb_str_tuple : kitB "str" "tuple" = some false := by decide +kernel
theorem kb_str_dict : kitB "str" "dict" = some false := by decide +kernel
theorem kb_list_bool : kitB "list" "bool" = some false := by decide +kernel
theorem kb_list_int : kitB "list" "int" = some false := by decide +kernel
theorem kb_list_str : kitB "list" "str" = some false := by decide +kernel
theorem kb_list_list : kitB "list" "list" = some true := by decide +kernel
theorem kb_list_tuple : kitB "list" "tuple" = some false := by decide +kernel
theorem kb_list_dict : kitB "list" "dict" = some false := by decide +kernel
theorem kb_tuple_bool : kitB "tuple" "bool" = some false := by decide +kernel
theorem kb_tuple_int : kitB "tuple" "int" = some false := by decide +kernel
theorem kb_tuple_str : kitB "tuple" "str" = some false := by decide +kernel
theorem kb_tuple_list : kitB "tuple" "list" = some false := by decide +kernel
theorem kb_tuple_tuple : kitB "tuple" "tuple" = some true := by decide +kernel
theorem kb_tuple_dict : kitB "tuple" "dict" = some false := by decide +kernel
theorem kb_dict_bool : kitB "dict" "bool" = some false := by decide +kernel
theorem kb_dict_int : kitB "dict" "int" = some false := by decide +kernel
theorem kb_dict_str : kitB "dict" "str" = some false := by decide +kernel
theorem kb_dict_list : kitB "dict" "list" = some false := by decide +kernel
theorem kb_dict_tuple : kitB "dict" "tuple" = some false := by decide +kernel
theorem kb_dict_dict : kitB "dict" "dict" = some true := by decide +kernel
end Fw

/-! The frame, 5: lists of one's own: made, grown, lent. -/
namespace Fw
open PySem L2
open PyProof.Rows (envOfC)
section
variable {K : PySem.W.Frag} {W : Wd} {ms : List Addr} {B : Bs} {H H' : Hp} {ρ ρ' ρ1 : List Sl} {σ σ' : St} {d : PyData} {ds : List PyData} {s : Sl} {v : V} {vs : List V} {l : Addr} {i : Nat}
  {ta tb tc te tx tl ti : TE} {tt t u : TT} {wi : TI} {g : TG} {D : Ends} {ts ts' tz : TS}
theorem At.freshB (h : At K W ms B ρ σ H) (hl : H l = none) : B.hb l = none := by
  have hm := (h.fresh hl).2.1
  cases q : B.hb l with
  | none => rfl
  | some o =>
    have e := h.st l o (by rw [cut_out hm]; exact q)
    rw [cut_out hm, hl] at e
    cases e
/-- what one owns: a list at l, apart from the data -/
structure Own (K : PySem.W.Frag) (W : Wd) (ms : List Addr) (B : Bs) (l : Addr) (ds : List PyData) (H : Hp) : Prop where
  mem : l ∈ ms
  nws : l ∉ W.ws
  h0 : B.h0 l = none
  val : ∃ vs, H l = some (.lst vs) ∧ DpAll K (cut ms H) vs ds
theorem Own.go (o : Own K W ms B l ds H) (sub : ∀ a ∈ W.ws, a ∈ ms) (x : XW W.ws H H') : Own K W ms B l ds H' := by
  obtain ⟨vs, e, d⟩ := o.val
  exact ⟨o.mem, o.nws, o.h0, vs, x l _ o.nws e, dpa_mono (x.cut sub) _ _ d⟩
theorem Own.same (o : Own K W ms B l ds H) (s : Same H H') : Own K W ms B l ds H' := by
  obtain ⟨vs, e, d⟩ := o.val
  exact ⟨o.mem, o.nws, o.h0, vs, s _ _ e, dpa_mono (fun a u q => by
    by_cases z : a ∈ ms
    · rw [cut_in z] at q; cases q
    · rw [cut_out z] at q ⊢
      exact s _ _ q) _ _ d⟩
theorem Own.re (o : Own K W ms B l ds H) (b : Hp) : Own K W ms ⟨B.h0, b⟩ l ds H := ⟨o.mem, o.nws, o.h0, o.val⟩
theorem Own.un {b : Hp} (o : Own K W ms ⟨B.h0, b⟩ l ds H) : Own K W ms B l ds H := ⟨o.mem, o.nws, o.h0, o.val⟩
/-- a list that came new is taken as one's own -/
theorem At.adopt (h : At K W ms B ρ σ H) (x : XW W.ws H H') (g : At K W ms B ρ σ H') (hl : H l = none) {o : HO} (e : H' l = some o) : At K W (l :: ms) B ρ σ H' := by
  have m1 : Same (cut ms H) (cut (l :: ms) H') := (cut_new hl).trans (x.cut fun a z => List.mem_cons_of_mem _ (h.sub a z))
  refine ⟨fun a z => List.mem_cons_of_mem _ (h.sub a z), fun a z => ?_, h.env.mono m1, g.p, g.xw, cut_cons.trans (h.st.trans m1), W.mono _ _ m1 h.c⟩
  rcases List.mem_cons.mp z with q | q
  · subst q; exact ⟨o, e⟩
  · exact g.live a q
/-- one's own list read as data -/
theorem At.lend (h : At K W (l :: ms) B ρ σ H) (o : Own K W (l :: ms) B l ds H) (hm : l ∉ ms) (hb : B.hb l = none) (hr : ρ[i]? = some (.raw (.ref l))) : At K W ms B (ρ.set i (.dat (.list ds))) σ H := by
  obtain ⟨vs, e, dd⟩ := o.val
  have hd : Dp K (cut ms H) (.ref l) (.list ds) := .lst (.inl (.inl (by rw [cut_out hm]; exact e))) (dpa_mono cut_cons _ _ dd)
  refine ⟨fun a z => ?_, fun a z => h.live a (List.mem_cons_of_mem _ z), ?_, h.p, h.xw, (cut_new hb).trans (h.st.trans cut_cons), W.mono _ _ cut_cons h.c⟩
  · rcases List.mem_cons.mp (h.sub a z) with q | q
    · exact absurd (q ▸ z) o.nws
    · exact q
  · obtain ⟨w, ew, ow⟩ := h.env.get hr (by intro q; cases q)
    have ew' : w = .ref l := ow
    subst ew'
    have hx := (h.env.mono (cut_cons (ms := ms) (H := H))).set (s := .dat (.list ds)) (o := some (.ref l)) hd i
    have es : σ.set i (some (.ref l)) = σ := by
      apply List.ext_getElem?
      intro j
      by_cases q : i = j
      · subst q
        rw [List.getElem?_set_self', ew]
        rfl
      · rw [List.getElem?_set_ne q]
    rw [es] at hx
    exact hx
theorem ef_lst {ta : TA} (h : EvD K W ta ρ ds) (hl : ds.length ≤ 100000) : EvF K W (tLst ta) ρ (· = ds) := fun ms B σ H g Q q => h ms B σ H g _ fun vs H1 g1 x1 o1 =>
  ⟨by rw [dpa_len o1]; exact le_line hl, fun p hp => by
    have hp0 : H p = none := by
      have hw := (g1.fresh hp).2.2
      cases q : H p with
      | none => rfl
      | some o => rw [x1 p o hw q] at hp; cases hp
    exact q ds p vs _ rfl (g1.same (same_put hp)) (x1.trans (.of_same (same_put hp))) hp0 upd_same (dpa_mono ((cut_new hp).trans cut_drop) _ _ o1)⟩
theorem ev_of_ef (h : EvF K W te ρ (· = ds)) : Evd K W te ρ (.list ds) := ev_of_en ((en_of_ef h).imp fun s ⟨es, e, q⟩ => by rw [e, q])
theorem flat_rep {α : Type} (n : Nat) (x : α) : (List.replicate n [x]).flatten = List.replicate n x := by
  induction n with
  | zero => rfl
  | succ n ih => rw [List.replicate_succ, List.flatten_cons, ih, List.replicate_succ]; rfl
theorem dpa_rep {n : Nat} (h : Dp K H v d) : DpAll K H (List.replicate n v) (List.replicate n d) := by
  induction n with
  | zero => exact .nil
  | succ n ih => rw [List.replicate_succ, List.replicate_succ]; exact .cons h ih
/-- [x] * n -/
theorem ef_rep {ta : TA} {n : Nat} (h : EvD K W ta ρ [d]) (hn : Evd K W tb ρ (.int (n : Int))) (hz : n ≤ 100000) : EvF K W (tOp rRep (tLst ta) tb) ρ (· = List.replicate n d) := fun ms B σ H g Q q =>
  ef_lst h (by show 1 ≤ 100000; omega) ms B σ H g _ fun ds p vs H1 φ g1 x1 hp e1 o1 => hn ms B σ H1 g1 _ fun y H2 g2 x2 oy => by
    subst φ
    cases oy
    cases o1 with
    | @cons v _ _ _ o1 o2 =>
      cases o2
      have hw : p ∉ W.ws := fun z => g.live.fresh hp (g.sub p z)
      refine ⟨p, n, [v], rfl, rfl, x2 p _ hw e1, by omega, by omega, by rw [List.length_singleton]; show 1 * (n : Int).toNat ≤ sizeLine; rw [Int.toNat_natCast]; exact Nat.le_trans (by omega) (show 100000 ≤ sizeLine by decide), fun p2 hp2 => ?_⟩
      rw [Int.toNat_natCast, flat_rep]
      have hw2 := (g2.fresh hp2).2.2
      have hp0 : H p2 = none := by
        cases q : H p2 with
        | none => rfl
        | some o => rw [(x1.trans x2) p2 o hw2 q] at hp2; cases hp2
      refine q _ p2 _ _ rfl (g2.same (same_put hp2)) ((x1.trans x2).trans (.of_same (same_put hp2))) hp0 upd_same (dpa_rep (dp_mono ?_ _ _ o1))
      have sub : ∀ a ∈ W.ws, a ∈ p :: ms := fun a z => List.mem_cons_of_mem _ (g.sub a z)
      exact (x2.cut sub).trans (cut_cons.trans ((cut_new hp2).trans cut_drop))
/-- list(xs) -/
theorem ef_list (h : Evd K W te ρ (.list ds)) : EvF K W (tCB (rLstOf K) (tCons te tNil)) ρ (· = ds) := fun ms B σ H g Q q => h ms B σ H g _ fun v H1 g1 x1 o1 => by
  cases o1 with
  | lst hs ha =>
    refine ⟨_, _, rfl, .inl (sql_mono cut_le hs), fun p hp => ?_⟩
    have hw := (g1.fresh hp).2.2
    have hp0 : H p = none := by
      cases q : H p with
      | none => rfl
      | some o => rw [x1 p o hw q] at hp; cases hp
    exact q _ p _ _ rfl (g1.same (same_put hp)) (x1.trans (.of_same (same_put hp))) hp0 upd_same (dpa_mono ((cut_new hp).trans cut_drop) _ _ ha)
theorem ef_lc0 {α : Type} {xs : List α} {enc f : α → PyData} {j : Nat} (sr : Src K W wi ρ (xs.map enc)) (hz : xs.length ≤ 16000000) (he : ∀ x ∈ xs, Evd K W te ((ρ.set j .emp).set j (.dat (enc x))) (f x)) :
    EvF K W (tLc wi (gName j) tYes te [j]) ρ (· = xs.map f) := by
  refine (ef_lc (K := K) (W := W) (g := gName j) (tt := tYes) (te := te) (p := fun _ => true) (Φ := fun x d => d = f x) (vs := [j]) (S := fun x => (ρ.set j .emp).set j (.dat (enc x))) sr hz (fun x _ => ⟨[j], tg_name, fun _ z => z⟩) (fun _ _ => et_yes) fun x hx _ => en_of_ev (he x hx) ⟨_, rfl, rfl⟩).imp fun es pr => ?_
  rw [List.filter_eq_self.mpr fun _ _ => rfl] at pr
  exact paired_map pr
theorem ev_lcN {α : Type} {xs : List α} {enc f : α → PyData} {vs : List Nat} {S : α → List Sl} (sr : Src K W wi ρ (xs.map enc)) (hz : xs.length ≤ 16000000)
    (tg : ∀ x ∈ xs, ∃ js, Tg K W g js (enc x) (wipeR ρ vs) (S x) ∧ ∀ j ∈ js, j ∈ vs) (he : ∀ x ∈ xs, Evd K W te (S x) (f x)) : Evd K W (tLc wi g tYes te vs) ρ (.list (xs.map f)) := by
  have h := ev_lc (tt := tYes) (p := fun _ => true) (f := f) (te := te) sr hz tg (fun _ _ => et_yes) fun x hx _ => he x hx
  rw [List.filter_eq_self.mpr fun _ _ => rfl] at h
  exact h
theorem zip_tup {α β : Type} {e1 : α → PyData} {e2 : β → PyData} : ∀ (xs : List α) (ys : List β), List.zipWith (fun a b => PyData.tuple [a, b]) (xs.map e1) (ys.map e2) = (xs.zip ys).map fun p => .tuple [e1 p.1, e2 p.2]
  | [], _ => rfl
  | _ :: _, [] => rfl
  | x :: xs, y :: ys => by
    rw [List.map_cons, List.map_cons, List.zipWith_cons_cons, zip_tup xs ys]
    rfl
theorem s_par3 {i j l : Nat} {ta : TA} {s1 s2 s3 : Sl} (h : At K W ms B ρ σ H) (e : EvA K W ta ρ [s1, s2, s3]) (k : ∀ σ' H', At K W ms B (((ρ.set i s1).set j s2).set l s3) σ' H' → XW W.ws H H' → D.nx σ' H') : tPar3 i j l ta D σ H :=
  e ms B σ H h _ fun vs H1 h1 x1 o1 => by
    cases o1 with
    | cons o1 o2 =>
      cases o2 with
      | cons o2 o3 =>
        cases o3 with
        | cons o3 o4 =>
          cases o4
          exact ⟨_, _, _, rfl, k _ H1 (((h1.set o1 i).set o2 j).set o3 l) x1⟩
theorem q_par3 {i j l : Nat} {ta : TA} {s1 s2 s3 : Sl} (h : At K W ms B ρ σ H) (e : EvA K W ta ρ [s1, s2, s3]) (k : ∀ σ' H', At K W ms B (((ρ.set i s1).set j s2).set l s3) σ' H' → XW W.ws H H' → tz D σ' H') : tSeq (tPar3 i j l ta) tz D σ H :=
  s_par3 (D := { D with nx := tz D }) h e k
theorem q_for {R S : Nat → List Sl} {X : Nat → Hp → Prop} (h : At K W ms B ρ σ H) (sr : Src K W wi ρ ds) (l0 : Le (R 0) ρ) (x0 : ∀ H1, At K W ms B ρ σ H1 → XW W.ws H H1 → X 0 H1)
    (tg : ∀ i d, ds[i]? = some d → ∃ js, Tg K W g js d (R i) (S i))
    (hs : ∀ Hb i d σ' H', ds[i]? = some d → At K W ms ⟨B.h0, Hb⟩ (S i) σ' H' → X i H' → ts { D with nx := fun σ H => At K W ms ⟨B.h0, Hb⟩ (R (i + 1)) σ H ∧ X (i + 1) H, ct := fun σ H => At K W ms ⟨B.h0, Hb⟩ (R (i + 1)) σ H ∧ X (i + 1) H, bk := tz D } σ' H')
    (hd : ∀ σ' H', At K W ms B (R ds.length) σ' H' → X ds.length H' → tz D σ' H') (xs : ∀ i H H', Same H H' → Live ms H → X i H → X i H') : tSeq (tFor wi g ts) tz D σ H :=
  s_for (D := { D with nx := tz D }) h sr l0 x0 (fun i H H' s a x => xs i H H' s a.live x) tg hs hd xs
/-- whatever is looked back to for the data -/
theorem At.un' {b : Hp} (h : At K W ms B ρ σ H) (g : At K W ms ⟨B.h0, b⟩ ρ' σ' H') (x : Same (cut ms B.hb) (cut ms H')) : At K W ms B ρ' σ' H' := ⟨g.sub, g.live, g.env, g.p, g.xw, x, g.c⟩
/-- a word between a statement and what follows -/
theorem q_cut (M : L2.St → Hp → Prop) (h : ∀ Z : L2.St → Hp → Prop, (∀ σ' H', M σ' H' → Z σ' H') → ts { D with nx := Z } σ H) (k : ∀ σ' H', M σ' H' → tz D σ' H') : tSeq ts tz D σ H := h _ k
/-- x = a new list, as one's own -/
theorem s_own {Φ : List PyData → Prop} (h : At K W ms B ρ σ H) (e : EvF K W te ρ Φ) (k : ∀ l ds σ' H', Φ ds → At K W (l :: ms) B (ρ.set i (.raw (.ref l))) σ' H' → Own K W (l :: ms) B l ds H' → l ∉ ms → B.hb l = none → D.nx σ' H') : tAsg te (gName i) D σ H :=
  e ms B σ H h _ fun ds l vs H1 φ h1 x1 hl e1 o1 => by
    obtain ⟨l0, lm, lw⟩ := h.fresh hl
    exact k l ds _ _ φ ((h.adopt x1 h1 hl e1).set (s := .raw (.ref l)) rfl i) ⟨List.mem_cons_self, lw, l0, vs, e1, o1⟩ lm (h.freshB hl)
theorem q_own' {Φ : List PyData → Prop} (h : At K W ms B ρ σ H) (e : EvF K W te ρ Φ) (k : ∀ l ds σ' H', Φ ds → At K W (l :: ms) B (ρ.set i (.raw (.ref l))) σ' H' → Own K W (l :: ms) B l ds H' → l ∉ ms → B.hb l = none → tz D σ' H') : tSeq (tAsg te (gName i)) tz D σ H :=
  s_own (D := { D with nx := tz D }) h e k
/-- l.append(e) -/
theorem s_app {Φ : PyData → Prop} (h : At K W ms B ρ σ H) (o : Own K W ms B l ds H) (hr : ρ[i]? = some (.raw (.ref l))) (hz : ds.length < 100000) (e : En K W te ρ fun s => ∃ d, s = .dat d ∧ Φ d)
    (k : ∀ d H', Φ d → At K W ms B ρ σ H' → Own K W ms B l (ds ++ [d]) H' → D.nx σ H') : tDrop (tBM K "list" rAppend (tVar i) (tCons te tNil)) D σ H := by
  obtain ⟨w, ew, ow⟩ := h.env.get hr (by intro q; cases q)
  obtain rfl : w = .ref l := ow
  obtain ⟨vs, el, dd⟩ := o.val
  refine ⟨_, ew, .inl ⟨rfl, _, .inl (.inl el)⟩, e ms B σ H h _ fun s v H1 φ h1 x1 o1 => ?_⟩
  obtain ⟨d, rfl, φ⟩ := φ
  have e1 := x1 l _ o.nws el
  refine ⟨l, vs, v, rfl, rfl, e1, Nat.lt_of_lt_of_le (by rw [dpa_len dd]; exact hz) (show 100000 ≤ sizeLine by decide), ?_⟩
  have d1 := dpa_mono (x1.cut h.sub) _ _ dd
  exact k d _ φ (h1.write o.mem o.nws o.h0) ⟨o.mem, o.nws, o.h0, vs ++ [v], upd_same, dpa_mono (cut_put (.inl o.mem)) _ _ (dpa_snoc d1 o1)⟩
theorem q_app {Φ : PyData → Prop} (h : At K W ms B ρ σ H) (o : Own K W ms B l ds H) (hr : ρ[i]? = some (.raw (.ref l))) (hz : ds.length < 100000) (e : En K W te ρ fun s => ∃ d, s = .dat d ∧ Φ d)
    (k : ∀ d H', Φ d → At K W ms B ρ σ H' → Own K W ms B l (ds ++ [d]) H' → tz D σ H') : tSeq (tDrop (tBM K "list" rAppend (tVar i) (tCons te tNil))) tz D σ H :=
  s_app (D := { D with nx := tz D }) h o hr hz e k
/-- l.reverse() -/
theorem q_rev (h : At K W ms B ρ σ H) (o : Own K W ms B l ds H) (hr : ρ[i]? = some (.raw (.ref l))) (k : ∀ H', At K W ms B ρ σ H' → Own K W ms B l ds.reverse H' → tz D σ H') : tSeq (tDrop (tBM0 K "list" rReverse (tVar i))) tz D σ H := by
  obtain ⟨w, ew, ow⟩ := h.env.get hr (by intro q; cases q)
  obtain rfl : w = .ref l := ow
  obtain ⟨vs, el, dd⟩ := o.val
  refine ⟨_, ew, .inl ⟨rfl, _, .inl (.inl el)⟩, l, vs, rfl, rfl, el, ?_⟩
  exact k _ (h.write o.mem o.nws o.h0) ⟨o.mem, o.nws, o.h0, _, upd_same, dpa_mono (cut_put (.inl o.mem)) _ _ (dpa_rev dd)⟩
/-- l[j] += e, ints -/
theorem s_augL {ns : List Int} {j : Nat} {y : Int} (h : At K W ms B ρ σ H) (o : Own K W ms B l (ns.map .int) H) (hr : ρ[i]? = some (.raw (.ref l))) (hj : j < ns.length) (hz : ns.length ≤ 100000) (ei : Evd K W ti ρ (.int (j : Int))) (ee : Evd K W te ρ (.int y))
    (k : ∀ H', At K W ms B ρ σ H' → Own K W ms B l ((ns.set j (ns[j]?.getD 0 + y)).map .int) H' → D.nx σ H') : tAugS (tVar i) ti te (rGetL K) (ipI fun i j => i + j) rSetL D σ H := by
  obtain ⟨w, ew, ow⟩ := h.env.get hr (by intro q; cases q)
  obtain rfl : w = .ref l := ow
  obtain ⟨vs, el, dd⟩ := o.val
  have ev := dpa_ints dd
  subst ev
  refine ⟨_, ew, ei ms B σ H h _ fun jv H1 h1 x1 o1 => ?_⟩
  cases o1
  have e1 := x1 l _ o.nws el
  have en : ns[j]? = some ns[j] := List.getElem?_eq_getElem hj
  refine ⟨l, ns.map V.int, j, .int ns[j], rfl, rfl, SqL.of e1, by omega, by rw [List.getElem?_map, en]; rfl, ee ms B σ H1 h1 _ fun yv H2 h2 x2 o2 => ?_⟩
  cases o2
  have e2 := x2 l _ o.nws e1
  refine ⟨ns[j], y, rfl, rfl, l, ns.map V.int, j, j, rfl, rfl, e2, ?_, ?_⟩
  · unfold ixN
    rw [if_pos (Int.natCast_nonneg j), if_pos (by rw [List.length_map]; omega), Int.toNat_natCast]
  · refine k _ (h2.write o.mem o.nws o.h0) ⟨o.mem, o.nws, o.h0, (ns.set j (ns[j]?.getD 0 + y)).map V.int, ?_, dpa_of_ints _ _ _⟩
    rw [upd_same, en, List.map_set]
    rfl
/-! ### defs that hand back a new list -/
def spF (K : PySem.W.Frag) (G : List PyData → List PyData → Prop) : Sp := fun vs H Q _ => ∃ (ms : List Addr) (ds : List PyData) (es : List PyData), Live ms H ∧ DpAll K (cut ms H) vs ds ∧ G ds es ∧
  ∀ p ws H', Same H H' → H p = none → H' p = some (.lst ws) → DpAll K (cut (p :: ms) H') ws es → Q (.ref p) H'
theorem ef_call {G : List PyData → List PyData → Prop} {es : List PyData} {ta : TA} {E : XK} (h : EvD K W ta ρ ds) (hg : G ds es) : EvF K W (tCall (spF K G) [] E ta) ρ (· = es) := fun ms B σ H a Q q => h ms B σ H a _ fun vs H1 h1 x1 o1 => by
  show spF K G (vs ++ []) H1 Q E
  rw [List.append_nil]
  refine ⟨ms, ds, es, h1.live, o1, hg, fun p ws H2 s2 hp e2 o2 => ?_⟩
  have hw := (h1.fresh hp).2.2
  have hp0 : H p = none := by
    cases q : H p with
    | none => rfl
    | some o => rw [x1 p o hw q] at hp; cases hp
  exact q es p ws H2 rfl (h1.same s2) (x1.trans (.of_same s2)) hp0 e2 o2
theorem ef_callK {G : List PyData → List PyData → Prop} {es : List PyData} {tk : TA} {gV : List V → List V → List V} {gD : List PyData → List PyData} {E : XK} (h : EvD K W tk ρ ds) (hg : G (gD ds) es) (hp : ∀ (H : Hp) (vs : List V), DpAll K H vs ds → DpAll K H (gV [] vs) (gD ds)) : EvF K W (tCallK (spF K G) gV E tNil tk) ρ (· = es) := fun ms B σ H a Q q => h ms B σ H a _ fun vs H1 h1 x1 o1 => by
  refine ⟨ms, gD ds, es, h1.live, hp _ _ o1, hg, fun p ws H2 s2 hp e2 o2 => ?_⟩
  have hw := (h1.fresh hp).2.2
  have hp0 : H p = none := by
    cases q : H p with
    | none => rfl
    | some o => rw [x1 p o hw q] at hp; cases hp
  exact q es p ws H2 rfl (h1.same s2) (x1.trans (.of_same s2)) hp0 e2 o2
def RunsF (K : PySem.W.Frag) (t : TS) (ρ : List Sl) (es : List PyData) : Prop :=
  ∀ (ms : List Addr) (σ : St) (H : Hp) (Q : VK), At K W0 ms ⟨H, H⟩ ρ σ H → (∀ p ws H', Same H H' → H p = none → H' p = some (.lst ws) → DpAll K (cut (p :: ms) H') ws es → Q (.ref p) H') → t { nx := fun _ H' => Q .non H', rt := Q } σ H
/-- return a new list -/
theorem s_retF {Φ : List PyData → Prop} (h : At K W0 ms B ρ σ H) (e : EvF K W0 te ρ Φ) (k : ∀ es p ws H', Φ es → Same B.h0 H' → B.h0 p = none → H' p = some (.lst ws) → DpAll K (cut (p :: ms) H') ws es → D.rt (.ref p) H') : tRet te D σ H :=
  e ms B σ H h _ fun es p ws H' φ g x hp e o => k es p ws H' φ (g.xw.same) (h.fresh hp).1 e o
section
variable {P : Program} {w : World} {mg : Str → Option Value} {base : Heap}
theorem pureOkF {x qual : Str} {st : Stmt} {f : Addr} {fd : FuncData} {N ps : List Str} {k : Nat} {G : List PyData → List PyData → Prop} (F : Fun K x qual st f fd) (S : FnScope N ps (defScope st)) (hG : ∀ ds d, G ds d → ds.length = ps.length)
    (hb : ∀ (cdv : Value) (A : Around) (outer : List Env) (s : Shared) (H : Hp) (E : XK), Room k (A.deeper (envOfC qual (defScope st) s.heap.objs.size f cdv)) →
      ∃ t, PSs (cxOf CX0 P w K mg base N qual (defScope st) f cdv A outer s H E).nox (defBody st) t ∧ ∀ ds d, G ds d → RunsF K t (slots N.length ds) d) : FnOk P w K mg base CX0 (k + 1) f fd ps (spF K G) := by
  refine F.ok S (fun vs H Q E h => ?_) fun cdv A outer s H vs Q E hr h => ?_
  · obtain ⟨ms, ds, d, l, o, g, _⟩ := h
    rw [dpa_len o, hG ds d g]
  · obtain ⟨ms, ds, d, l, o, g, q⟩ := h
    obtain ⟨t, ht, hr⟩ := hb cdv A outer s H E hr
    exact ⟨t, ht, hr ds d g ms _ H Q (at_start l o) fun p ws H' s hp e od => q p ws H' s hp e od⟩
end
end
end Fw

/-! The frame, 6: the rules again, what is closed in them left to the kernel. -/
namespace Fw
open PySem L2
section
variable {X : Cx} {x : Str} {pos pos' p : Pos} {e : Expr} {es : List Expr} {te : TE} {t : TA} {g : TG}
theorem kvl (i : Nat) (hN : X.N[i]? = some x := by kernel_rfl) (hv : X.env.scope.names.lookup x = some .local := by kernel_rfl) (h1 : (x == ("__debug__" : Str)) = false := by kernel_rfl) (h2 : (x == ("__classdict__" : Str)) = false := by kernel_rfl) : PE X (.Name x pos) (tVar i) := pe_var hN (.inl hv) h1 h2
theorem kvc (i : Nat) (hN : X.N[i]? = some x := by kernel_rfl) (hv : X.env.scope.names.lookup x = some .cell := by kernel_rfl) (h1 : (x == ("__debug__" : Str)) = false := by kernel_rfl) (h2 : (x == ("__classdict__" : Str)) = false := by kernel_rfl) : PE X (.Name x pos) (tVar i) := pe_var hN (.inr (.inl hv)) h1 h2
theorem kvf (i : Nat) (hN : X.N[i]? = some x := by kernel_rfl) (hv : X.env.scope.names.lookup x = some .free := by kernel_rfl) (h1 : (x == ("__debug__" : Str)) = false := by kernel_rfl) (h2 : (x == ("__classdict__" : Str)) = false := by kernel_rfl) : PE X (.Name x pos) (tVar i) := pe_var hN (.inr (.inr hv)) h1 h2
theorem kgl (i : Nat) (nd : X.N.Nodup) (hN : X.N[i]? = some x := by kernel_rfl) (hv : X.env.scope.names.lookup x = some .local := by kernel_rfl) : PG X (.Name x pos) (gName i) := pg_name nd hN (.inl hv) (.inr hv)
theorem kgc (i : Nat) (nd : X.N.Nodup) (hN : X.N[i]? = some x := by kernel_rfl) (hv : X.env.scope.names.lookup x = some .cell := by kernel_rfl) (hf : X.fn x = true := by kernel_rfl) : PG X (.Name x pos) (gName i) := pg_name nd hN (.inr hv) (.inl hf)
theorem kgs {e : Expr} {es : List Expr} {u : TGs} (h1 : PG X e g) (h2 : PGs X es u) (hs : (assignEach (e :: es) X.env).map (·.2) = assign e X.env :: (assignEach es X.env).map (·.2) := by kernel_rfl) : PGs X (e :: es) (gCons g u) := pgs_cons h1 h2 hs
theorem kgt {k n : Nat} {u : TGs} (hc : X.calm = true) (h : PGs X es u) (hn : (assignEach es X.env).length = n := by kernel_rfl) (hs : (assignEach es X.env).findIdx? (·.1) = none := by kernel_rfl) : PG X (.Tuple es k pos) (gTup X.K n u) := pg_tup hc h hn hs
theorem ksl (i : Nat) (nd : X.N.Nodup) (he : PE X e te) (hN : X.N[i]? = some x := by kernel_rfl) (hv : X.env.scope.names.lookup x = some .local := by kernel_rfl) (hs : swapsWith e (some (.Name x pos')) pos.line X.env = pure false := by kernel_rfl) : PS X (.Assign [.Name x pos'] e pos) (tAsg te (gName i)) := ps_set nd hN (.inl hv) he hs (.inr hv)
theorem ksc (i : Nat) (nd : X.N.Nodup) (he : PE X e te) (hN : X.N[i]? = some x := by kernel_rfl) (hv : X.env.scope.names.lookup x = some .cell := by kernel_rfl) (hs : swapsWith e (some (.Name x pos')) pos.line X.env = pure false := by kernel_rfl) (hf : X.fn x = true := by kernel_rfl) : PS X (.Assign [.Name x pos'] e pos) (tAsg te (gName i)) := ps_set nd hN (.inr hv) he hs (.inl hf)
theorem kpa (ha : PE X e te) (hr : PA X es t) (hs : starEach (e :: es) X.env = (false, eval e X.env) :: starEach es X.env := by kernel_rfl) : PA X (e :: es) (tCons te t) := pa_cons ha hr hs
theorem kasg {tg : Expr} (he : PE X e te) (hg : PG X tg g) (h1 : swapsWithSole [tg] e pos.line X.env = pure false := by kernel_rfl) (h2 : swappedStores [tg] e X.env = pure none := by kernel_rfl) (h3 : (assignEach [tg] X.env).map (·.2) = [assign tg X.env] := by kernel_rfl) : PS X (.Assign [tg] e pos) (tAsg te g) := ps_asg he hg h1 h2 h3
theorem kexpr (he : PE X e te) (hs : swapsWith e none pos.line X.env = pure false := by kernel_rfl) : PS X (.Expr e pos) (tDrop te) := ps_expr he hs
theorem kcall {k : Nat} {f : Addr} {fd : FuncData} {ps : List Str} {sp : Sp} (F : FnOk X.prog X.w X.K X.mg X.base CX0 k f fd ps sp) (hr : Room k X.A) (hm : X.mg x = some (.ref f)) (hk : PySem.W.keepIn X.K (.ref f) = true) (hb : Binds X.K fd ps []) (ha : PA X (e :: es) t)
    (hg : X.env.kindOf x = some .globalImplicit := by kernel_rfl) (h1 : (x == ("__debug__" : Str)) = false := by kernel_rfl) (h2 : starEach (e :: es) X.env = (false, eval e X.env) :: starEach es X.env := by kernel_rfl) (h3 : (backTo pos (starEach es X.env)).any (·.1) = false := by kernel_rfl) :
    PE X (.Call (.Name x p) (e :: es) [] pos) (tCall sp [] E0 t) := pe_call F hr hg hm hk hb .nil pass0 ha h1 h2 h3
theorem kB {id : String} {r : List V → Hp → VK → Prop} (hc : CallR X (.builtin id) r) (hm : X.mg x = none) (ha : PA X (e :: es) t) (hg : X.env.kindOf x = some .globalImplicit := by kernel_rfl) (hv : bootBuiltins x = some (.builtin id) := by kernel_rfl) (hn : (x == ("__name__" : Str)) = false := by kernel_rfl) (h1 : (x == ("__debug__" : Str)) = false := by kernel_rfl)
    (h2 : starEach (e :: es) X.env = (false, eval e X.env) :: starEach es X.env := by kernel_rfl) (h3 : (backTo pos (starEach es X.env)).any (·.1) = false := by kernel_rfl) : PE X (.Call (.Name x p) (e :: es) [] pos) (tCB r t) := pe_callB hc hg hm hv ha (fun q => by subst q; exact absurd hn (by decide +kernel)) h1 h2 h3
theorem kTy {T : String} {r : List V → Hp → VK → Prop} (hc : CallR X (.type T) r) (hm : X.mg x = none) (ha : PA X (e :: es) t) (hg : X.env.kindOf x = some .globalImplicit := by kernel_rfl) (hv : bootBuiltins x = some (.type T) := by kernel_rfl) (hn : (x == ("__name__" : Str)) = false := by kernel_rfl) (h1 : (x == ("__debug__" : Str)) = false := by kernel_rfl)
    (h2 : starEach (e :: es) X.env = (false, eval e X.env) :: starEach es X.env := by kernel_rfl) (h3 : (backTo pos (starEach es X.env)).any (·.1) = false := by kernel_rfl) : PE X (.Call (.Name x p) (e :: es) [] pos) (tCB r t) := pe_callTy hc hg hm hv ha (fun q => by subst q; exact absurd hn (by decide +kernel)) h1 h2 h3
theorem kBf {id : String} {r : List V → Hp → VK → Prop} (hc : CallR X (.builtin id) r) (hm : X.mg x = some (.builtin id)) (ha : PA X (e :: es) t) (hg : X.env.kindOf x = some .globalImplicit := by kernel_rfl) (h1 : (x == ("__debug__" : Str)) = false := by kernel_rfl)
    (h2 : starEach (e :: es) X.env = (false, eval e X.env) :: starEach es X.env := by kernel_rfl) (h3 : (backTo pos (starEach es X.env)).any (·.1) = false := by kernel_rfl) : PE X (.Call (.Name x p) (e :: es) [] pos) (tCB r t) := pe_callBfun hc hg hm ha h1 h2 h3
theorem kty {T : String} (hm : X.mg x = none) (hg : X.env.kindOf x = some .globalImplicit := by kernel_rfl) (hv : bootBuiltins x = some (.type T) := by kernel_rfl) (hn : (x == ("__name__" : Str)) = false := by kernel_rfl) (h1 : (x == ("__debug__" : Str)) = false := by kernel_rfl) : PE X (.Name x pos) (tC (.ty T)) :=
  pe_bltn (v := .ty T) hg hm hv rfl (fun q => by subst q; exact absurd hn (by decide +kernel)) h1
theorem kgc' {v : V} (h : ∃ u, X.mg x = some u ∧ RelV v u) (hg : X.env.kindOf x = some .globalImplicit := by kernel_rfl) (h1 : (x == ("__debug__" : Str)) = false := by kernel_rfl) : PE X (.Name x pos) (tC v) := C8.pe_gc hg h h1
theorem krg1 {tg a : Expr} {ta : TA} (hm : X.mg "range" = none) (ha : PA X [a] ta) (hg : X.env.kindOf "range" = some .globalImplicit := by kernel_rfl) (hs : starEach [a] X.env = [(false, eval a X.env)] := by kernel_rfl) : PI X tg (.Call (.Name "range" p) [a] [] pos) (iRng1 ta) := pi_range1 hg hm ha hs
theorem krg2 {tg a b : Expr} {ta : TA} (hm : X.mg "range" = none) (ha : PA X [a, b] ta) (hg : X.env.kindOf "range" = some .globalImplicit := by kernel_rfl) (hs : starEach [a, b] X.env = [(false, eval a X.env), (false, eval b X.env)] := by kernel_rfl) (hs2 : starEach [b] X.env = [(false, eval b X.env)] := by kernel_rfl) : PI X tg (.Call (.Name "range" p) [a, b] [] pos) (iRng2 ta) := pi_range2 hg hm ha hs hs2
theorem kzip {elts : List Expr} {kk : Nat} {tpos : Pos} {e e2 : Expr} {ta : TA} (hm : X.mg "zip" = none) (ha : PA X [e, e2] ta) (hg : X.env.kindOf "zip" = some .globalImplicit := by kernel_rfl) (hs : starEach [e, e2] X.env = (false, eval e X.env) :: starEach [e2] X.env := by kernel_rfl) (h3 : (backTo pos (starEach [e2] X.env)).any (·.1) = false := by kernel_rfl) : PI X (.Tuple elts kk tpos) (.Call (.Name "zip" p) [e, e2] [] pos) (RZ.iZipA X.K ta) := RZ.pi_zipA hg hm ha hs h3
theorem kmeth0 {T m : String} {name : Str} {id : String} {r : V → List V → Hp → VK → Prop} {o : Expr} {to : TE} {apos : Pos} (pa : PlainAttrs T) (slot : Slot T name id) (hty : typeOf (.builtin id) = pure (.type "method_descriptor")) (hm : MtR X id r) (ho : PE X o to)
    (h1 : attributeBase o name X.env (eval o X.env) = eval o X.env := by kernel_rfl) (h2 : (apos.endLine == pos.line) = true := by kernel_rfl) : PE X (.Call (.Attribute o name apos) [] [] pos) (tBM0 X.K T r to) := pe_bm0 pa slot hty hm ho h1 h2
theorem kmeth {T : String} {name : Str} {id : String} {r : V → List V → Hp → VK → Prop} {o : Expr} {to : TE} {apos : Pos} (pa : PlainAttrs T) (slot : Slot T name id) (hty : typeOf (.builtin id) = pure (.type "method_descriptor")) (hm : MtR X id r) (ho : PE X o to) (ha : PA X (e :: es) t)
    (h1 : attributeBase o name X.env (eval o X.env) = eval o X.env := by kernel_rfl)
    (h2 : ((backTo pos (starEach (e :: es) X.env)).all (fun x => !x.1) && (backToKw pos (keywordEach [] X.env)).all (fun x => x.1.isSome) && decide ((e :: es).length + ([] : List Keyword).length + (if ([] : List Keyword).isEmpty then 0 else 1) < 30)) = true := by kernel_rfl)
    (h3 : (apos.endLine == pos.line) = true := by kernel_rfl) (h4 : starEach (e :: es) X.env = (false, eval e X.env) :: starEach es X.env := by kernel_rfl) (h5 : (backTo pos (starEach es X.env)).any (·.1) = false := by kernel_rfl) : PE X (.Call (.Attribute o name apos) (e :: es) [] pos) (tBM X.K T r to t) := pe_bm pa slot hty hm ho ha h1 h2 h3 h4 h5
theorem kswap {elt : Expr} {gs : List Comprehension} {scope : Scope} {pos py : Pos} {y : Str} {l : Nat} {env : Env} (hk : env.scope.kind = .function := by kernel_rfl) (hy : env.scope.names.lookup y = some .local := by kernel_rfl) (hl : (py.line == pos.line) = true := by kernel_rfl)
    (ha : (scope.names.any fun (n, k) => n == y && (k == .local || k == .cell)) = false := by kernel_rfl) : swapsWith (.ListComp elt gs scope pos) (some (.Name y py)) l env = pure true := sw_true hk hy hl ha
theorem kpar {i j : Nat} {x y : Str} {a b : Expr} {ta : TA} {px py pt : Pos} {kt k2 pt2} (hc : X.calm = true) (hN : X.N.Nodup) (hij : i ≠ j) (ha : PA X [a, b] ta) (hi : X.N[i]? = some x := by kernel_rfl) (hj : X.N[j]? = some y := by kernel_rfl)
    (hx : X.env.scope.names.lookup x = some .local := by kernel_rfl) (hy : X.env.scope.names.lookup y = some .local := by kernel_rfl) (hw : swappedStores [.Tuple [.Name x px, .Name y py] kt pt] (.Tuple [a, b] k2 pt2) X.env = pure (some [x, y]) := by kernel_rfl)
    (hs : swapsWithSole [.Tuple [.Name x px, .Name y py] kt pt] (.Tuple [a, b] k2 pt2) pos.line X.env = pure false := by kernel_rfl) : PS X (.Assign [.Tuple [.Name x px, .Name y py] kt pt] (.Tuple [a, b] k2 pt2) pos) (tPar i j ta) := ps_par hc hN hi hj hij hx hy ha hw hs
theorem kpar3 {i j l : Nat} {x y z : Str} {a b c : Expr} {ta : TA} {px py pz pt : Pos} {kt k2 pt2} (hc : X.calm = true) (hN : X.N.Nodup) (hij : i ≠ j) (hil : i ≠ l) (hjl : j ≠ l) (ha : PA X [a, b, c] ta) (hi : X.N[i]? = some x := by kernel_rfl) (hj : X.N[j]? = some y := by kernel_rfl) (hl : X.N[l]? = some z := by kernel_rfl)
    (hx : X.env.scope.names.lookup x = some .local := by kernel_rfl) (hy : X.env.scope.names.lookup y = some .local := by kernel_rfl) (hz : X.env.scope.names.lookup z = some .local := by kernel_rfl)
    (hw : swappedStores [.Tuple [.Name x px, .Name y py, .Name z pz] kt pt] (.Tuple [a, b, c] k2 pt2) X.env = pure (some [x, y, z]) := by kernel_rfl)
    (hs : swapsWithSole [.Tuple [.Name x px, .Name y py, .Name z pz] kt pt] (.Tuple [a, b, c] k2 pt2) pos.line X.env = pure false := by kernel_rfl) : PS X (.Assign [.Tuple [.Name x px, .Name y py, .Name z pz] kt pt] (.Tuple [a, b, c] k2 pt2) pos) (tPar3 i j l ta) := ps_par3 hc hN hi hj hl hij hil hjl hx hy hz ha hw hs
theorem kval (h : PE X e te) (he : ∀ whole, isTrue e X.env whole = (do let v ← whole; standAt e.pos; holding [v] (truthy v)) := by exact fun _ => by kernel_rfl) : PT X e (tB te) := pt_val h he
end
end Fw

/-! The frame, 7: one of several things; the laws' source of draws. -/
namespace Fw
open PySem L2
open PyProof.Rows (envOfC)
/-! ### data that == can look at -/
def Shp (n : Nat) (d : PyData) : Prop := d.canLay0 = true ∧ d.depth ≤ n
theorem Shp.shaped {n : Nat} {d : PyData} (h : Shp n d) (hn : n ≤ 64) : SeqAt.shaped d = true := by
  unfold SeqAt.shaped
  rw [h.1, decide_eq_true (Nat.le_trans h.2 hn)]
  rfl
theorem shp_none : Shp 0 .none := ⟨rfl, Nat.le_refl _⟩
theorem shp_bool (b : Bool) : Shp 0 (.bool b) := ⟨rfl, Nat.le_refl _⟩
theorem shp_int (i : Int) : Shp 0 (.int i) := ⟨rfl, Nat.le_refl _⟩
theorem shp_str {x : Str} (h : (PyData.str x).canLay0 = true) : Shp 0 (.str x) := ⟨h, Nat.le_refl _⟩
theorem Shp.mono {n m : Nat} {d : PyData} (h : Shp n d) (l : n ≤ m) : Shp m d := ⟨h.1, Nat.le_trans h.2 l⟩
theorem shp_all {n : Nat} : ∀ {ds : List PyData}, (∀ d ∈ ds, Shp n d) → PyData.canLayAll0 ds = true ∧ PyData.depthAll ds ≤ n
  | [], _ => ⟨by simp [PyData.canLayAll0], by simp [PyData.depthAll]⟩
  | d :: ds, h => by
    have h1 := h d List.mem_cons_self
    have h2 := shp_all (ds := ds) fun x hx => h x (List.mem_cons_of_mem _ hx)
    refine ⟨?_, ?_⟩
    · simp only [PyData.canLayAll0, h1.1, h2.1, Bool.and_self]
    · simp only [PyData.depthAll]
      exact Nat.max_le.mpr ⟨h1.2, h2.2⟩
theorem shp_list {n : Nat} {ds : List PyData} (h : ∀ d ∈ ds, Shp n d) : Shp (n + 1) (.list ds) := by
  obtain ⟨h1, h2⟩ := shp_all h
  refine ⟨?_, ?_⟩
  · simp only [PyData.canLay0]; exact h1
  · simp only [PyData.depth]; omega
theorem shp_tuple {n : Nat} {ds : List PyData} (h : ∀ d ∈ ds, Shp n d) : Shp (n + 1) (.tuple ds) := by
  obtain ⟨h1, h2⟩ := shp_all h
  refine ⟨?_, ?_⟩
  · simp only [PyData.canLay0]; exact h1
  · simp only [PyData.depth]; omega
theorem shp_ints (ns : List Int) : Shp 1 (.list (ns.map .int)) := shp_list fun d hd => by
  obtain ⟨n, _, rfl⟩ := List.mem_map.mp hd
  exact shp_int n

section
variable {K : PySem.W.Frag} {W : Wd} {ms : List Addr} {B : Bs} {H H' : Hp} {ρ ρ' ρ1 : List Sl} {σ σ' : L2.St} {d : PyData} {ds : List PyData} {s s1 s2 : Sl} {v : V} {vs : List V} {l : Addr} {i : Nat}
  {ta tb tc te tx tl ti tv tm : TE} {tt t u : TT} {wi : TI} {g : TG} {D : Ends} {ts ts' tz : TS} {Φ Φ1 Φ2 : Sl → Prop}
/-! ### one of several things -/
def IsI (Ψ : Int → Prop) : Sl → Prop := fun s => ∃ n : Int, s = .dat (.int n) ∧ Ψ n
def IsD (Ψ : PyData → Prop) : Sl → Prop := fun s => ∃ d : PyData, s = .dat d ∧ Ψ d
theorem en_op {r : R2} (ha : En K W ta ρ Φ1) (hb : En K W tb ρ Φ2) (hr : ∀ s1 s2, Φ1 s1 → Φ2 s2 → ∃ s, Φ s ∧ Rs K r s1 s2 s) : En K W (tOp r ta tb) ρ Φ := fun ms B σ H h Q q =>
  ha ms B σ H h _ fun s1 x H1 φ1 h1 x1 o1 => hb ms B σ H1 h1 _ fun s2 y H2 φ2 h2 x2 o2 => by
    obtain ⟨s, φ, rs⟩ := hr s1 s2 φ1 φ2
    exact rs ms H2 x y h2.live (o1.mono (x2.cut h2.sub)) o2 Q fun v H3 s3 o3 => q s v H3 φ (h2.same s3) ((x1.trans x2).trans (.of_same s3)) o3
theorem en_I0 {Ψ1 Ψ2 Ψ : Int → Prop} {f : Int → Int → Int} (ha : En K W ta ρ (IsI Ψ1)) (hb : En K W tb ρ (IsI Ψ2)) (h : ∀ i j, Ψ1 i → Ψ2 j → Ψ (f i j)) : En K W (tOp (rI0 fun i j => .int (f i j)) ta tb) ρ (IsI Ψ) :=
  en_op ha hb fun s1 s2 ⟨i, e1, p1⟩ ⟨j, e2, p2⟩ => by
    subst e1 e2
    exact ⟨_, ⟨_, rfl, h i j p1 p2⟩, rs_I0 fun _ => .int _⟩
theorem en_I {Ψ1 Ψ2 Ψ : Int → Prop} {C : Int → Int → Prop} {f : Int → Int → Int} (ha : En K W ta ρ (IsI Ψ1)) (hb : En K W tb ρ (IsI Ψ2)) (hc : ∀ i j, Ψ1 i → Ψ2 j → C i j) (h : ∀ i j, Ψ1 i → Ψ2 j → Ψ (f i j)) : En K W (tOp (rI C fun i j => .int (f i j)) ta tb) ρ (IsI Ψ) :=
  en_op ha hb fun s1 s2 ⟨i, e1, p1⟩ ⟨j, e2, p2⟩ => by
    subst e1 e2
    exact ⟨_, ⟨_, rfl, h i j p1 p2⟩, rs_I (fun _ => .int _) (hc i j p1 p2)⟩
theorem en_int {i : Int} {Ψ : Int → Prop} (h : Ψ i) : En K W (tC (.int i)) ρ (IsI Ψ) := en_of_ev ev_int ⟨i, rfl, h⟩
theorem en_evi {n : Int} {Ψ : Int → Prop} (e : Evd K W te ρ (.int n)) (h : Ψ n) : En K W te ρ (IsI Ψ) := en_of_ev e ⟨n, rfl, h⟩
theorem en_toInt {Ψ : Int → Prop} (h : En K W te ρ (IsI Ψ)) : En K W (tCB rInt1 (tCons te tNil)) ρ (IsI Ψ) := fun ms B σ H a Q q => h ms B σ H a _ fun s v H1 φ h1 x1 o1 => by
  obtain ⟨n, rfl, p⟩ := φ
  cases o1
  exact .inl ⟨_, rfl, q (.dat (.int n)) _ H1 ⟨n, rfl, p⟩ h1 x1 (.int n)⟩
theorem en_eqI {Ψ1 : Int → Prop} {j : Int} (ha : En K W ta ρ (IsI Ψ1)) (hb : Evd K W tb ρ (.int j)) : EnT K W (tTest (tOp rEq ta tb)) ρ (fun _ => True) := fun ms B σ H a Q q => ha ms B σ H a _ fun s v H1 φ h1 x1 o1 => hb ms B σ H1 h1 _ fun w H2 h2 x2 o2 => by
  obtain ⟨n, rfl, p⟩ := φ
  cases o1
  cases o2
  exact ⟨rfl, _, rfl, q _ H2 trivial h2 (x1.trans x2)⟩
theorem ent_of {b : Bool} {Ψ : Bool → Prop} (h : EvT K W tt ρ b) (φ : Ψ b) : EnT K W tt ρ Ψ := fun ms B σ H a Q q => h ms B σ H a _ fun H1 h1 x1 => q b H1 φ h1 x1
theorem en_if {Ψ : Bool → Prop} (h : EnT K W tt ρ Ψ) (h1 : Ψ true → En K W ta ρ Φ) (h2 : Ψ false → En K W tb ρ Φ) : En K W (tIf tt ta tb) ρ Φ := fun ms B σ H g Q q => h ms B σ H g _ fun b H1 ψ g1 x1 => by
  cases b with
  | true => exact iteT (h1 ψ ms B σ H1 g1 Q fun s v H2 φ g2 x2 o2 => q s v H2 φ g2 (x1.trans x2) o2)
  | false => exact iteF (h2 ψ ms B σ H1 g1 Q fun s v H2 φ g2 x2 o2 => q s v H2 φ g2 (x1.trans x2) o2)
theorem ent_and {Ψ1 Ψ2 : Bool → Prop} (h1 : EnT K W t ρ Ψ1) (h2 : Ψ1 true → EnT K W u ρ Ψ2) : EnT K W (tAnd t u) ρ (fun b => (Ψ1 true ∧ Ψ2 b) ∨ (Ψ1 false ∧ b = false)) := fun ms B σ H g Q q => h1 ms B σ H g _ fun b H1 ψ g1 x1 => by
  cases b with
  | true => exact iteT (h2 ψ ms B σ H1 g1 Q fun b H2 φ g2 x2 => q b H2 (.inl ⟨ψ, φ⟩) g2 (x1.trans x2))
  | false => exact iteF (q false H1 (.inr ⟨ψ, rfl⟩) g1 x1)
/-- arguments, of several things -/
def EnD (K : PySem.W.Frag) (W : Wd) (ta : TA) (ρ : List Sl) (Ψ : List PyData → Prop) : Prop :=
  ∀ (ms : List Addr) (B : Bs) (σ : L2.St) (H : Hp), At K W ms B ρ σ H → ∀ Q : List V → Hp → Prop, (∀ ds vs H', Ψ ds → At K W ms B ρ σ H' → XW W.ws H H' → DpAll K (cut ms H') vs ds → Q vs H') → ta σ H Q
theorem end_of {ta : TA} {Ψ : List PyData → Prop} (h : EvD K W ta ρ ds) (ψ : Ψ ds) : EnD K W ta ρ Ψ := fun ms B σ H a Q q => h ms B σ H a Q fun vs H1 h1 x1 o1 => q ds vs H1 ψ h1 x1 o1
theorem end_nil : EnD K W tNil ρ (· = []) := end_of ed_nil rfl
theorem end_cons {tr : TA} {Ψ1 : PyData → Prop} {Ψ2 : List PyData → Prop} (h : En K W ta ρ (IsD Ψ1)) (hr : EnD K W tr ρ Ψ2) : EnD K W (tCons ta tr) ρ (fun ds => ∃ d es, ds = d :: es ∧ Ψ1 d ∧ Ψ2 es) := fun ms B σ H g Q q =>
  h ms B σ H g _ fun s x H1 φ g1 x1 o1 => hr ms B σ H1 g1 _ fun es xs H2 ψ g2 x2 o2 => by
    obtain ⟨d, rfl, φ⟩ := φ
    exact q (d :: es) _ H2 ⟨d, es, rfl, φ, ψ⟩ g2 (x1.trans x2) (.cons (o1.mono (x2.cut g2.sub)) o2)
theorem EnD.imp {ta : TA} {Ψ Ψ' : List PyData → Prop} (h : EnD K W ta ρ Ψ) (i : ∀ ds, Ψ ds → Ψ' ds) : EnD K W ta ρ Ψ' := fun ms B σ H a Q q => h ms B σ H a Q fun ds vs H1 ψ => q ds vs H1 (i ds ψ)
theorem en_tup {ta : TA} {Ψ : List PyData → Prop} (h : EnD K W ta ρ Ψ) (hl : ∀ ds, Ψ ds → ds.length ≤ 100000) : En K W (tTup ta) ρ (IsD fun d => ∃ ds, d = .tuple ds ∧ Ψ ds) := fun ms B σ H g Q q => h ms B σ H g _ fun ds vs H1 ψ g1 x1 o1 =>
  ⟨by rw [dpa_len o1]; exact le_line (hl ds ψ), fun p hp => q (.dat (.tuple ds)) _ _ ⟨_, rfl, ds, rfl, ψ⟩ (g1.same (same_put hp)) (x1.trans (.of_same (same_put hp))) (Sl.new_tup g1.live hp o1)⟩
theorem en_lst {ta : TA} {Ψ : List PyData → Prop} (h : EnD K W ta ρ Ψ) (hl : ∀ ds, Ψ ds → ds.length ≤ 100000) : En K W (tLst ta) ρ (IsD fun d => ∃ ds, d = .list ds ∧ Ψ ds) := fun ms B σ H g Q q => h ms B σ H g _ fun ds vs H1 ψ g1 x1 o1 =>
  ⟨by rw [dpa_len o1]; exact le_line (hl ds ψ), fun p hp => q (.dat (.list ds)) _ _ ⟨_, rfl, ds, rfl, ψ⟩ (g1.same (same_put hp)) (x1.trans (.of_same (same_put hp))) (Sl.new_lst g1.live hp o1)⟩
theorem en_tupL {Ψ : List PyData → Prop} (h : En K W te ρ (IsD fun d => ∃ ds, d = .list ds ∧ Ψ ds)) : En K W (tCB (rTupOf K) (tCons te tNil)) ρ (IsD fun d => ∃ ds, d = .tuple ds ∧ Ψ ds) := fun ms B σ H g Q q => h ms B σ H g _ fun s v H1 φ g1 x1 o1 => by
  obtain ⟨d, rfl, ds, rfl, ψ⟩ := φ
  cases o1 with
  | lst hs ha => exact ⟨_, _, rfl, .inl ⟨sql_mono cut_le hs, fun p hp => q (.dat (.tuple ds)) _ _ ⟨_, rfl, ds, rfl, ψ⟩ (g1.same (same_put hp)) (x1.trans (.of_same (same_put hp))) (Sl.new_tup g1.live hp ha)⟩⟩
/-! statements -/
theorem s_asgN {j : Nat} (h : At K W ms B ρ σ H) (e : En K W te ρ Φ) (k : ∀ s σ' H', Φ s → At K W ms B (ρ.set j s) σ' H' → D.nx σ' H') : tAsg te (gName j) D σ H := e ms B σ H h _ fun s v H1 φ h1 x1 o1 => k s _ H1 φ (h1.set o1 j)
theorem q_asgN {j : Nat} (h : At K W ms B ρ σ H) (e : En K W te ρ Φ) (k : ∀ s σ' H', Φ s → At K W ms B (ρ.set j s) σ' H' → tz D σ' H') : tSeq (tAsg te (gName j)) tz D σ H := s_asgN (D := { D with nx := tz D }) h e k
theorem s_ifN {Ψ : Bool → Prop} (h : At K W ms B ρ σ H) (e : EnT K W tt ρ Ψ) (k1 : Ψ true → ∀ H', At K W ms B ρ σ H' → ts D σ H') (k2 : Ψ false → ∀ H', At K W ms B ρ σ H' → ts' D σ H') : tIfS tt ts ts' D σ H := e ms B σ H h _ fun b H1 ψ h1 x1 => by
  cases b with
  | true => exact iteT (k1 ψ H1 h1)
  | false => exact iteF (k2 ψ H1 h1)
theorem s_retN (h : At K W ms B ρ σ H) (e : En K W te ρ Φ) (k : ∀ s v H', Φ s → At K W ms B [] [] H' → s.ok K (cut ms H') v → D.rt v H') : tRet te D σ H := e ms B σ H h _ fun s v H1 φ h1 x1 o1 => k s v H1 φ h1.nil o1
theorem q_parN {j k : Nat} {ta tb : TE} (h : At K W ms B ρ σ H) (e1 : En K W ta ρ Φ1) (e2 : En K W tb ρ Φ2) (kk : ∀ s1 s2 σ' H', Φ1 s1 → Φ2 s2 → At K W ms B ((ρ.set j s1).set k s2) σ' H' → tz D σ' H') : tSeq (tPar j k (tCons ta (tCons tb tNil))) tz D σ H :=
  e1 ms B σ H h _ fun s1 v1 H1 φ1 h1 x1 o1 => e2 ms B σ H1 h1 _ fun s2 v2 H2 φ2 h2 x2 o2 => ⟨v1, v2, rfl, kk s1 s2 _ H2 φ1 φ2 ((h2.set (o1.mono (x2.cut h2.sub)) j).set o2 k)⟩
/-- the for, with something of each turn that is told of no one -/
theorem s_forE {α : Type} {R S : Nat → α → List Sl} {X : Nat → α → Hp → Prop} (p0 : α) (h : At K W ms B ρ σ H) (sr : Src K W wi ρ ds) (l0 : Le (R 0 p0) ρ) (x0 : ∀ H1, At K W ms B ρ σ H1 → XW W.ws H H1 → X 0 p0 H1)
    (tg : ∀ i p d, ds[i]? = some d → ∃ js, Tg K W g js d (R i p) (S i p))
    (hs : ∀ Hb i p d σ' H', ds[i]? = some d → At K W ms ⟨B.h0, Hb⟩ (S i p) σ' H' → X i p H' → ts { D with nx := fun σ H => ∃ p', At K W ms ⟨B.h0, Hb⟩ (R (i + 1) p') σ H ∧ X (i + 1) p' H, ct := fun σ H => ∃ p', At K W ms ⟨B.h0, Hb⟩ (R (i + 1) p') σ H ∧ X (i + 1) p' H, bk := D.nx } σ' H')
    (hd : ∀ p σ' H', At K W ms B (R ds.length p) σ' H' → X ds.length p H' → D.nx σ' H') (xs : ∀ i p H H', Same H H' → Live ms H → X i p H → X i p H') : tFor wi g ts D σ H := sr ms B σ H h _ fun J H1 h1 x1 stm => by
  obtain ⟨G, Y, wk, st⟩ := stm
  refine for_it wk (fun i σ H => ∃ p, At K W ms ⟨B.h0, H1⟩ (R i p) σ H ∧ X i p H) ⟨p0, h1.re.le l0, x0 H1 h1 x1⟩ (fun i σ H _ ⟨p, a, _⟩ => (st ms H a.st).1) (fun i x σ H H' hi ⟨p, a, xx⟩ y => ?_) fun σ H ⟨p, a, xx⟩ => hd p σ H (h1.un a) xx
  obtain ⟨s, hdt⟩ := (st ms H a.st).2 i x H' a.live y
  have hx : ds[i]? = some ds[i] := List.getElem?_eq_getElem hi
  obtain ⟨js, tj⟩ := tg i p _ hx
  exact tj ms _ σ H' x (a.same s) (hdt _ hx) _ fun σ2 h2 _ => hs H1 i p _ σ2 H' hx h2 (xs i p H H' s a.live xx)
theorem q_forE {α : Type} {R S : Nat → α → List Sl} {X : Nat → α → Hp → Prop} (p0 : α) (h : At K W ms B ρ σ H) (sr : Src K W wi ρ ds) (l0 : Le (R 0 p0) ρ) (x0 : ∀ H1, At K W ms B ρ σ H1 → XW W.ws H H1 → X 0 p0 H1)
    (tg : ∀ i p d, ds[i]? = some d → ∃ js, Tg K W g js d (R i p) (S i p))
    (hs : ∀ Hb i p d σ' H', ds[i]? = some d → At K W ms ⟨B.h0, Hb⟩ (S i p) σ' H' → X i p H' → ts { D with nx := fun σ H => ∃ p', At K W ms ⟨B.h0, Hb⟩ (R (i + 1) p') σ H ∧ X (i + 1) p' H, ct := fun σ H => ∃ p', At K W ms ⟨B.h0, Hb⟩ (R (i + 1) p') σ H ∧ X (i + 1) p' H, bk := tz D } σ' H')
    (hd : ∀ p σ' H', At K W ms B (R ds.length p) σ' H' → X ds.length p H' → tz D σ' H') (xs : ∀ i p H H', Same H H' → Live ms H → X i p H → X i p H') : tSeq (tFor wi g ts) tz D σ H :=
  s_forE (D := { D with nx := tz D }) p0 h sr l0 x0 tg hs hd xs

/-! ### the source of draws -/
structure DrawA where
  d : Addr
  l : Addr
  c : Addr
  cells : List Int
  ne : d ≠ l
def drawKv (A : DrawA) (r t : Int) : List (Key × V) := [(.inr "large", .ref A.l), (.inr "rest", .int r), (.inr "cells", .ref A.c), (.inr "turn", .int t)]
structure DrawS where
  large : List Int
  rest : Int
  turn : Int
def drawAt (A : DrawA) (S : DrawS) (H : Hp) : Prop := H A.d = some (.dK (drawKv A S.rest S.turn)) ∧ H A.l = some (.lst (S.large.map .int))
def DW (K : PySem.W.Frag) (A : DrawA) : Wd where
  ws := [A.d, A.l]
  P := fun H => ∃ S, drawAt A S H
  sup := fun H H' k ⟨S, h1, h2⟩ => ⟨S, k _ (by simp) _ h1, k _ (by simp) _ h2⟩
  C := fun H => Dp K H (.ref A.c) (.list (A.cells.map .int))
  mono := fun H H' s h => dp_mono s _ _ h
theorem str_lr : ¬ (("large" : Str) = "rest") := by decide +kernel
theorem str_lc : ¬ (("large" : Str) = "cells") := by decide +kernel
theorem str_lt : ¬ (("large" : Str) = "turn") := by decide +kernel
theorem str_rc : ¬ (("rest" : Str) = "cells") := by decide +kernel
theorem str_rt : ¬ (("rest" : Str) = "turn") := by decide +kernel
theorem str_ct : ¬ (("cells" : Str) = "turn") := by decide +kernel
theorem get_large (A : DrawA) (r t : Int) : valV (drawKv A r t) (.inr "large") = some (.ref A.l) := by simp [valV, drawKv]
theorem get_rest (A : DrawA) (r t : Int) : valV (drawKv A r t) (.inr "rest") = some (.int r) := by simp [valV, drawKv, str_lr, List.find?_cons]
theorem get_cells (A : DrawA) (r t : Int) : valV (drawKv A r t) (.inr "cells") = some (.ref A.c) := by simp [valV, drawKv, str_lc, str_rc, List.find?_cons]
theorem get_turn (A : DrawA) (r t : Int) : valV (drawKv A r t) (.inr "turn") = some (.int t) := by simp [valV, drawKv, str_lt, str_rt, str_ct, List.find?_cons]
theorem put_rest (A : DrawA) (r t z : Int) : putK (drawKv A r t) (.inr "rest") (.int z) = drawKv A z t := by simp [putK, drawKv, str_lr, Ne.symm str_rc, Ne.symm str_rt]
theorem put_turn (A : DrawA) (r t z : Int) : putK (drawKv A r t) (.inr "turn") (.int z) = drawKv A r z := by simp [putK, drawKv, str_lt, str_rt, str_ct]
variable {A : DrawA}
theorem At.draw (h : At K (DW K A) ms B ρ σ H) {a : Addr} {o : HO} (ha : a ∈ [A.d, A.l]) (p : ∃ S, drawAt A S (upd H a o)) : At K (DW K A) ms B ρ σ (upd H a o) := by
  have hm : a ∈ ms := h.sub a ha
  refine ⟨h.sub, h.live.upd, h.env.mono (cut_put (.inl hm)), p, fun b u n e => ?_, h.st.trans (cut_put (.inl hm)), dp_mono (cut_put (.inl hm)) _ _ h.c⟩
  rw [upd_ne (fun q => by subst q; exact n ha)]
  exact h.xw b u n e
theorem xw_draw {a : Addr} {o : HO} (ha : a ∈ [A.d, A.l]) : XW (DW K A).ws H (upd H a o) := fun b u n e => by
  rw [upd_ne (fun q => by subst q; exact n ha)]
  exact e
theorem en_rest (h : ρ[i]? = some (.raw (.ref A.d))) : En K (DW K A) (tDGet (tVar i) (tC (.str "rest"))) ρ (IsI fun _ => True) := fun ms B σ H a Q q => by
  obtain ⟨v, e, o⟩ := a.env.get h (by intro q; cases q)
  obtain rfl : v = .ref A.d := o
  obtain ⟨S, e1, e2⟩ := a.p
  have g := DGet.k (k := Sum.inr "rest") e1
  rw [get_rest] at g
  exact ⟨_, e, A.d, .int S.rest, rfl, g, q (.dat (.int S.rest)) _ H ⟨_, rfl, trivial⟩ a (.refl H) (.int _)⟩
theorem en_turn (h : ρ[i]? = some (.raw (.ref A.d))) : En K (DW K A) (tDGet (tVar i) (tC (.str "turn"))) ρ (IsI fun _ => True) := fun ms B σ H a Q q => by
  obtain ⟨v, e, o⟩ := a.env.get h (by intro q; cases q)
  obtain rfl : v = .ref A.d := o
  obtain ⟨S, e1, e2⟩ := a.p
  have g := DGet.k (k := Sum.inr "turn") e1
  rw [get_turn] at g
  exact ⟨_, e, A.d, .int S.turn, rfl, g, q (.dat (.int S.turn)) _ H ⟨_, rfl, trivial⟩ a (.refl H) (.int _)⟩
theorem ev_cells (h : ρ[i]? = some (.raw (.ref A.d))) : Evd K (DW K A) (tDGet (tVar i) (tC (.str "cells"))) ρ (.list (A.cells.map .int)) := fun ms B σ H a Q q => by
  obtain ⟨v, e, o⟩ := a.env.get h (by intro q; cases q)
  obtain rfl : v = .ref A.d := o
  obtain ⟨S, e1, e2⟩ := a.p
  have g := DGet.k (k := Sum.inr "cells") e1
  rw [get_cells] at g
  exact ⟨_, e, A.d, .ref A.c, rfl, g, q _ H a (.refl H) a.c⟩
theorem q_putRest (a : At K (DW K A) ms B ρ σ H) (h : ρ[i]? = some (.raw (.ref A.d))) (e : En K (DW K A) tv ρ (IsI fun _ => True)) (k : ∀ H', At K (DW K A) ms B ρ σ H' → D.nx σ H') : sDPut (tVar i) (tC (.str "rest")) tv D σ H := e ms B σ H a _ fun s v H1 φ h1 x1 o1 => by
  obtain ⟨n, rfl, _⟩ := φ
  cases o1
  obtain ⟨v, ev, o⟩ := h1.env.get h (by intro q; cases q)
  obtain rfl : v = .ref A.d := o
  obtain ⟨S, e1, e2⟩ := h1.p
  have g := DPut.k (k := Sum.inr "rest") (v := .int n) e1 (by show 4 < sizeLine; decide)
  rw [put_rest] at g
  exact ⟨_, ev, A.d, _, rfl, g, k _ (h1.draw (by simp) ⟨⟨S.large, n, S.turn⟩, upd_same, by rw [upd_ne (Ne.symm A.ne)]; exact e2⟩)⟩
theorem q_putTurn (a : At K (DW K A) ms B ρ σ H) (h : ρ[i]? = some (.raw (.ref A.d))) (e : En K (DW K A) tv ρ (IsI fun _ => True)) (k : ∀ H', At K (DW K A) ms B ρ σ H' → D.nx σ H') : sDPut (tVar i) (tC (.str "turn")) tv D σ H := e ms B σ H a _ fun s v H1 φ h1 x1 o1 => by
  obtain ⟨n, rfl, _⟩ := φ
  cases o1
  obtain ⟨v, ev, o⟩ := h1.env.get h (by intro q; cases q)
  obtain rfl : v = .ref A.d := o
  obtain ⟨S, e1, e2⟩ := h1.p
  have g := DPut.k (k := Sum.inr "turn") (v := .int n) e1 (by show 4 < sizeLine; decide)
  rw [put_turn] at g
  exact ⟨_, ev, A.d, _, rfl, g, k _ (h1.draw (by simp) ⟨⟨S.large, S.rest, n⟩, upd_same, by rw [upd_ne (Ne.symm A.ne)]; exact e2⟩)⟩
/-- draw["large"].pop(0) if draw["large"] != [] else .. -/
theorem en_next (h : ρ[i]? = some (.raw (.ref A.d))) (hm : En K (DW K A) tm ρ (IsI fun _ => True)) :
    En K (DW K A) (tIf (tTest (tOp (rNeD K) (tDGet (tVar i) (tC (.str "large"))) (tLst tNil))) (tBM K "list" rPopAt (tDGet (tVar i) (tC (.str "large"))) (tCons (tC (.int 0)) tNil)) tm) ρ (IsI fun _ => True) := fun ms B σ H a Q q => by
  obtain ⟨v, e, o⟩ := a.env.get h (by intro q; cases q)
  obtain rfl : v = .ref A.d := o
  obtain ⟨S, e1, e2⟩ := a.p
  have g := DGet.k (k := Sum.inr "large") e1
  rw [get_large] at g
  refine ⟨_, e, A.d, .ref A.l, rfl, g, Nat.zero_le _, fun p hp => ?_⟩
  have e2' := same_put (o := .lst []) hp _ _ e2
  refine ⟨.list (S.large.map .int), .list [], .lst (SqL.of e2') (dpa_of_ints _ _ _), .lst (SqL.of upd_same) .nil, (shp_ints _).shaped (by decide), (shp_list (n := 0) (by simp)).shaped (by decide), _, rfl, ?_⟩
  have a1 := a.same (same_put (o := .lst []) hp)
  have x1 : XW (DW K A).ws H (upd H p (.lst [])) := .of_same (same_put hp)
  obtain ⟨lg, r, tn⟩ := S
  cases lg with
  | nil => exact iteF (hm ms B σ _ a1 Q fun s v H2 φ h2 x2 o2 => q s v H2 φ h2 (x1.trans x2) o2)
  | cons n lg =>
    refine iteT ?_
    obtain ⟨S1, f1, f2⟩ := a1.p
    have e1' := same_put (o := .lst []) hp _ _ e1
    have g1 := DGet.k (k := Sum.inr "large") e1'
    rw [get_large] at g1
    refine ⟨_, e, A.d, .ref A.l, rfl, g1, .inl ⟨rfl, _, .inl (.inl e2')⟩, A.l, _, 0, 0, .int n, rfl, rfl, e2', by decide, by decide, ?_, rfl, ?_⟩
    · show seqIndex? 0 _ = some 0
      unfold seqIndex?
      simp
    · refine q (.dat (.int n)) _ _ ⟨n, rfl, trivial⟩ (a1.draw (by simp) ⟨⟨lg, r, tn⟩, ?_, ?_⟩) (x1.trans (xw_draw (by simp))) (.int n)
      · rw [upd_ne A.ne]; exact e1'
      · rw [upd_same]; rfl
/-! defs that draw -/
def spN (K : PySem.W.Frag) (Pre : List PyData → Prop) (Φ : List PyData → PyData → Prop) : Sp := fun vs H Q _ => ∃ (A : DrawA) (ms : List Addr) (ds : List PyData) (ws : List V), vs = .ref A.d :: ws ∧ (∀ a ∈ (DW K A).ws, a ∈ ms) ∧ Live ms H ∧ (DW K A).P H ∧ (DW K A).C (cut ms H) ∧ DpAll K (cut ms H) ws ds ∧ Pre ds ∧
  ∀ d v H', Φ ds d → XW (DW K A).ws H H' → Live ms H' → (DW K A).P H' → Dp K (cut ms H') v d → Q v H'
theorem en_callN {Pre : List PyData → Prop} {Φ : List PyData → PyData → Prop} {Ψ : List PyData → Prop} {ta : TA} {E : XK} (h : ρ[i]? = some (.raw (.ref A.d))) (ha : EnD K (DW K A) ta ρ Ψ) (hp : ∀ ds, Ψ ds → Pre ds) : En K (DW K A) (tCall (spN K Pre Φ) [] E (tCons (tVar i) ta)) ρ (IsD fun d => ∃ ds, Ψ ds ∧ Φ ds d) := fun ms B σ H a Q q => by
  obtain ⟨v, e, o⟩ := a.env.get h (by intro q; cases q)
  obtain rfl : v = .ref A.d := o
  refine ⟨_, e, ha ms B σ H a _ fun ds ws H1 ψ h1 x1 o1 => ?_⟩
  show spN K Pre Φ ((.ref A.d :: ws) ++ []) H1 Q E
  rw [List.append_nil]
  exact ⟨A, ms, ds, ws, rfl, h1.sub, h1.live, h1.p, h1.c, o1, hp ds ψ, fun d v H2 φ x2 l2 p2 o2 => q (.dat d) v H2 ⟨d, rfl, ds, ψ, φ⟩ (h1.go x2 l2 p2) (x1.trans x2) o2⟩
def RunsN (K : PySem.W.Frag) (t : TS) (ρ : DrawA → List Sl) (Φ : PyData → Prop) : Prop :=
  ∀ (A : DrawA) (ms : List Addr) (σ : L2.St) (H : Hp) (Q : VK), At K (DW K A) ms ⟨H, H⟩ (ρ A) σ H → (∀ d v H', Φ d → At K (DW K A) ms ⟨H, H⟩ [] [] H' → Dp K (cut ms H') v d → Q v H') → t { nx := fun _ H' => Q .non H', rt := Q } σ H
theorem env_argsN {ds : List PyData} {ws : List V} {n : Nat} {v : V} (h : DpAll K H ws ds) : EnvOk K H (.raw v :: (ds.map .dat ++ List.replicate n .emp)) (some v :: (ws.map some ++ List.replicate n none)) :=
  .cons (show SlO K H (.raw v) (some v) from rfl) (EnvOk.app (env_args h) (EnvOk.emp _))
section
variable {P : Program} {w : World} {mg : Str → Option Value} {base : Heap}
theorem drawOk {x qual : Str} {st : Stmt} {f : Addr} {fd : FuncData} {N ps : List Str} {k : Nat} {Pre : List PyData → Prop} {Φ : List PyData → PyData → Prop} (F : Fun K x qual st f fd) (S : FnScope N ps (defScope st)) (hG : ∀ ds, Pre ds → ds.length + 1 = ps.length)
    (hb : ∀ (cdv : Value) (A : Around) (outer : List Env) (s : Shared) (H : Hp) (E : XK), Room k (A.deeper (envOfC qual (defScope st) s.heap.objs.size f cdv)) →
      ∃ t, PSs (cxOf CX0 P w K mg base N qual (defScope st) f cdv A outer s H E).nox (defBody st) t ∧ ∀ ds, Pre ds → RunsN K t (fun A => .raw (.ref A.d) :: (ds.map .dat ++ List.replicate (N.length - (ds.length + 1)) .emp)) (Φ ds)) : FnOk P w K mg base CX0 (k + 1) f fd ps (spN K Pre Φ) := by
  refine F.ok S (fun vs H Q E h => ?_) fun cdv A outer s H vs Q E hr h => ?_
  · obtain ⟨A, ms, ds, ws, rfl, _, _, _, _, o, p, _⟩ := h
    rw [List.length_cons, dpa_len o, hG ds p]
  · obtain ⟨A2, ms, ds, ws, rfl, sub, l, p, c, o, pre, q⟩ := h
    obtain ⟨t, ht, hr⟩ := hb cdv A outer s H E hr
    refine ⟨t, ht, hr ds pre A2 ms _ H Q ⟨sub, l, ?_, p, .refl H, Same.refl _, c⟩ fun d v H' φ a od => q d v H' φ a.xw a.live a.p od⟩
    have e : L2.start N (.ref A2.d :: ws) = some (.ref A2.d) :: (ws.map some ++ List.replicate (N.length - (ds.length + 1)) none) := by
      unfold L2.start
      rw [List.map_cons, List.length_cons, dpa_len o]
      rfl
    rw [e]
    exact env_argsN o
end
end
end Fw

/-! The frame, 8: lists of one's own that are read while they grow; walks of several lengths. -/
namespace Fw
open PySem L2
/-! ### data without lists -/
mutual
def noList : PyData → Bool
  | .list _ => false
  | .tuple ds => noLists ds
  | .dict _ => false
  | _ => true
def noLists : List PyData → Bool
  | [] => true
  | d :: ds => noList d && noLists ds
end
theorem noLists_of : ∀ {ds : List PyData}, (∀ d ∈ ds, noList d = true) → noLists ds = true
  | [], _ => by simp [noLists]
  | d :: ds, h => by
    simp only [noLists, h d List.mem_cons_self, noLists_of fun x hx => h x (List.mem_cons_of_mem _ hx), Bool.and_self]
section
variable {K : PySem.W.Frag} {ms : List Addr} {H : Hp} {l : Addr} {xs : List V}
theorem sqt_nolist {a : Addr} {ys : List V} (hl : H l = some (.lst xs)) (h : SqT K (cut ms H) a ys) : SqT K (cut (l :: ms) H) a ys := by
  have key : ∀ u, (cut ms H) a = some u → (∀ zs, u ≠ .lst zs) → (cut (l :: ms) H) a = some u := fun u e n => by
    have nm : a ∉ ms := fun z => by rw [cut_in z] at e; cases e
    rw [cut_out nm] at e
    have na : a ≠ l := fun z => by
      subst z
      rw [hl] at e
      cases e
      exact n xs rfl
    rw [cut_out (by simp [na, nm])]
    exact e
  rcases h with (h | ⟨o, h⟩) | h
  · exact .inl (.inl (key _ h fun zs q => by cases q))
  · exact .inl (.inr ⟨o, key _ h fun zs q => by cases q⟩)
  · exact .inr h
mutual
theorem dp_nolist (hl : H l = some (.lst xs)) : ∀ (d : PyData) (v : V), noList d = true → Dp K (cut ms H) v d → Dp K (cut (l :: ms) H) v d
  | .none, _, _, h => by cases h; exact .non
  | .bool b, _, _, h => by cases h; exact .bl b
  | .int i, _, _, h => by cases h; exact .int i
  | .str x, _, _, h => by cases h; exact .str x
  | .list ds, _, n, _ => by simp [noList] at n
  | .tuple ds, _, n, h => by
    cases h with
    | tup hs ha => exact .tup (sqt_nolist hl hs) (dpa_nolist hl ds _ (by simpa [noList] using n) ha)
  | .dict _, _, _, h => by cases h
theorem dpa_nolist (hl : H l = some (.lst xs)) : ∀ (ds : List PyData) (vs : List V), noLists ds = true → DpAll K (cut ms H) vs ds → DpAll K (cut (l :: ms) H) vs ds
  | [], _, _, h => by cases h; exact .nil
  | d :: ds, _, n, h => by
    simp only [noLists, Bool.and_eq_true] at n
    cases h with
    | cons h1 h2 => exact .cons (dp_nolist hl d _ n.1 h1) (dpa_nolist hl ds _ n.2 h2)
end
end
section
variable {K : PySem.W.Frag} {W : Wd} {ms : List Addr} {B : Bs} {H H' : Hp} {ρ ρ' ρ1 : List Sl} {σ σ' : L2.St} {d : PyData} {ds : List PyData} {s s1 s2 : Sl} {v : V} {vs : List V} {l : Addr} {i : Nat}
  {ta tb tc te tx tl ti tv tm : TE} {tt t u : TT} {wi : TI} {g : TG} {D : Ends} {ts ts' tz : TS} {Φ Φ1 Φ2 : Sl → Prop}
def Bs.off (B : Bs) (l : Addr) : Bs := ⟨B.h0, fun a => if a = l then none else B.hb a⟩
theorem cut_off : cut (l :: ms) (B.off l).hb = cut (l :: ms) B.hb := by
  funext a
  by_cases q : a ∈ l :: ms
  · rw [cut_in q, cut_in q]
  · rw [cut_out q, cut_out q]
    have n : a ≠ l := fun z => q (by rw [z]; exact List.mem_cons_self)
    show (if a = l then none else B.hb a) = _
    rw [if_neg n]
theorem At.off (h : At K W (l :: ms) B ρ σ H) : At K W (l :: ms) (B.off l) ρ σ H := ⟨h.sub, h.live, h.env, h.p, h.xw, by rw [cut_off]; exact h.st, h.c⟩
/-- l.append(e), e may read l -/
theorem s_appL {Ψ : PyData → Prop} (h : At K W (l :: ms) B ρ σ H) (o : Own K W (l :: ms) B l ds H) (hm : l ∉ ms) (hr : ρ[i]? = some (.raw (.ref l))) (hz : ds.length < 100000)
    (e : En K W te (ρ.set i (.dat (.list ds))) (IsD fun d => noList d = true ∧ Ψ d)) (k : ∀ d H', Ψ d → At K W (l :: ms) B ρ σ H' → Own K W (l :: ms) B l (ds ++ [d]) H' → D.nx σ H') : tDrop (tBM K "list" rAppend (tVar i) (tCons te tNil)) D σ H := by
  obtain ⟨w, ew, ow⟩ := h.env.get hr (by intro q; cases q)
  obtain rfl : w = .ref l := ow
  obtain ⟨vs, el, dd⟩ := o.val
  refine ⟨_, ew, .inl ⟨rfl, _, .inl (.inl el)⟩, e ms (B.off l) σ H (h.off.lend ⟨o.mem, o.nws, o.h0, o.val⟩ hm (by show (if l = l then none else B.hb l) = none; rw [if_pos rfl]) hr) _ fun s v H1 φ h1 x1 o1 => ?_⟩
  obtain ⟨d, rfl, nl, ψ⟩ := φ
  have e1 := x1 l _ o.nws el
  refine ⟨l, vs, v, rfl, rfl, e1, Nat.lt_of_lt_of_le (by rw [dpa_len dd]; exact hz) (show 100000 ≤ sizeLine by decide), ?_⟩
  have g1 : At K W (l :: ms) B ρ σ H1 := h.go x1 (fun a z => (List.mem_cons.mp z).elim (fun q => by rw [q]; exact ⟨_, e1⟩) (h1.live a)) h1.p
  have d1 := dpa_mono (x1.cut h.sub) _ _ dd
  exact k d _ ψ (g1.write o.mem o.nws o.h0) ⟨o.mem, o.nws, o.h0, vs ++ [v], upd_same, dpa_mono (cut_put (.inl o.mem)) _ _ (dpa_snoc d1 (dp_nolist e1 d v nl o1))⟩
/-- a, b = e, a new list -/
theorem q_parNF {j k : Nat} {Ψ : List PyData → Prop} (h : At K W ms B ρ σ H) (e1 : En K W ta ρ (fun s => Φ1 s ∧ ∃ n, s = .dat (.int n))) (e2 : EvF K W tb ρ Ψ)
    (kk : ∀ s1 l ds σ' H', Φ1 s1 → Ψ ds → At K W (l :: ms) B ((ρ.set j s1).set k (.raw (.ref l))) σ' H' → Own K W (l :: ms) B l ds H' → l ∉ ms → B.hb l = none → tz D σ' H') : tSeq (tPar j k (tCons ta (tCons tb tNil))) tz D σ H :=
  e1 ms B σ H h _ fun s1 v1 H1 φ1 h1 x1 o1 => e2 ms B σ H1 h1 _ fun ds l vs H2 ψ h2 x2 hl e2 o2 => by
    obtain ⟨φ1, n, rfl⟩ := φ1
    cases o1
    obtain ⟨l0, lm, lw⟩ := h1.fresh hl
    exact ⟨_, _, rfl, kk _ l ds _ _ φ1 ψ (((h1.adopt x2 h2 hl e2).set (s := .dat (.int n)) (.int n) j).set (s := .raw (.ref l)) rfl k) ⟨List.mem_cons_self, lw, l0, vs, e2, o2⟩ lm (h1.freshB hl)⟩
/-! walks of one of several lists -/
def SrcN (K : PySem.W.Frag) (W : Wd) (wi : TI) (ρ : List Sl) (Ψ : List PyData → Prop) : Prop :=
  ∀ (ms : List Addr) (B : Bs) (σ : L2.St) (H : Hp), At K W ms B ρ σ H → ∀ R : It → Hp → Prop, (∀ ds J H', Ψ ds → At K W ms B ρ σ H' → XW W.ws H H' → Stream K J ms H' ds → R J H') → wi σ H R
theorem srcN_of {Ψ : List PyData → Prop} (h : Src K W wi ρ ds) (ψ : Ψ ds) : SrcN K W wi ρ Ψ := fun ms B σ H a R q => h ms B σ H a R fun J H' => q ds J H' ψ
theorem srcN_list {Ψ : List PyData → Prop} (h : En K W tl ρ (IsD fun d => ∃ ds, d = .list ds ∧ Ψ ds)) : SrcN K W (iList K tl) ρ Ψ := fun ms B σ H a R q => h ms B σ H a _ fun s v H1 φ h1 x1 o1 => by
  obtain ⟨d, rfl, ds, rfl, ψ⟩ := φ
  cases o1 with
  | @lst p vs _ hs ha =>
    refine ⟨p, rfl, ⟨vs, sql_mono cut_le hs⟩, q ds _ H1 ψ h1 x1 ⟨fun H => SqL K H p vs, YAt vs, ?_, fun ms' H2 s => ⟨sql_mono (s.trans cut_le) hs, fun i x H3 l y => ?_⟩⟩⟩
    · rw [← dpa_len ha]; exact walk_list
    · obtain ⟨rfl, e⟩ := y
      refine ⟨Same.refl _, fun d hd => ?_⟩
      obtain ⟨d', e', o⟩ := dpa_get ha e
      rw [hd] at e'
      cases e'
      exact dp_mono s _ _ o
def rangeD (n : Int) : List PyData := (List.range n.toNat).map fun i => PyData.int (i : Nat)
theorem srcN_range {Ψ : Int → Prop} (h : En K W te ρ (IsI Ψ)) (hn : ∀ n, Ψ n → -1000000000 ≤ n ∧ n ≤ 1000000000) : SrcN K W (iRng1 (tCons te tNil)) ρ (fun ds => ∃ n, Ψ n ∧ ds = rangeD n) := fun ms B σ H a R q => h ms B σ H a _ fun s v H1 φ h1 x1 o1 => by
  obtain ⟨n, rfl, ψ⟩ := φ
  cases o1
  have hb := hn n ψ
  refine ⟨n, rfl, by omega, by omega, q (rangeD n) _ H1 ⟨n, ψ, rfl⟩ h1 x1 ⟨fun _ => True, YFn fun i => .int (0 + i), ?_, fun ms' H2 s => ⟨trivial, fun i x H3 l y => ?_⟩⟩⟩
  · unfold rangeD; rw [List.length_map, List.length_range]; exact walk_range
  · obtain ⟨rfl, rfl⟩ := y
    refine ⟨Same.refl _, fun d hd => ?_⟩
    unfold rangeD at hd
    rw [List.getElem?_map] at hd
    cases e : (List.range n.toNat)[i]? with
    | none => rw [e] at hd; cases hd
    | some j =>
      rw [e] at hd
      obtain ⟨hl, e'⟩ := List.getElem?_eq_some_iff.mp e
      rw [List.getElem_range] at e'
      subst e'
      cases hd
      show Dp K _ (V.int (0 + _)) _
      rw [Int.zero_add]
      exact .int _
theorem rangeD_get {n : Int} {i : Nat} {d : PyData} (h : (rangeD n)[i]? = some d) : d = .int (i : Nat) ∧ (i : Int) < n := by
  unfold rangeD at h
  rw [List.getElem?_map] at h
  cases e : (List.range n.toNat)[i]? with
  | none => rw [e] at h; cases h
  | some j =>
    rw [e] at h
    obtain ⟨hl, e'⟩ := List.getElem?_eq_some_iff.mp e
    rw [List.getElem_range] at e'
    subst e'
    cases h
    rw [List.length_range] at hl
    exact ⟨rfl, by omega⟩
theorem rangeD_len (n : Int) : (rangeD n).length = n.toNat := by unfold rangeD; rw [List.length_map, List.length_range]
theorem s_forN {α : Type} {Ψ : List PyData → Prop} {R S : Nat → α → List Sl} {X : Nat → α → Hp → Prop} (p0 : α) (h : At K W ms B ρ σ H) (sr : SrcN K W wi ρ Ψ) (l0 : Le (R 0 p0) ρ) (x0 : ∀ H1, At K W ms B ρ σ H1 → XW W.ws H H1 → X 0 p0 H1)
    (tg : ∀ ds, Ψ ds → ∀ i p d, ds[i]? = some d → ∃ js, Tg K W g js d (R i p) (S i p))
    (hs : ∀ ds, Ψ ds → ∀ Hb i p d σ' H', ds[i]? = some d → At K W ms ⟨B.h0, Hb⟩ (S i p) σ' H' → X i p H' → ts { D with nx := fun σ H => ∃ p', At K W ms ⟨B.h0, Hb⟩ (R (i + 1) p') σ H ∧ X (i + 1) p' H, ct := fun σ H => ∃ p', At K W ms ⟨B.h0, Hb⟩ (R (i + 1) p') σ H ∧ X (i + 1) p' H, bk := D.nx } σ' H')
    (hd : ∀ ds, Ψ ds → ∀ p σ' H', At K W ms B (R ds.length p) σ' H' → X ds.length p H' → D.nx σ' H') (xs : ∀ i p H H', Same H H' → Live ms H → X i p H → X i p H') : tFor wi g ts D σ H := sr ms B σ H h _ fun ds J H1 ψ h1 x1 stm => by
  obtain ⟨G, Y, wk, st⟩ := stm
  refine for_it wk (fun i σ H => ∃ p, At K W ms ⟨B.h0, H1⟩ (R i p) σ H ∧ X i p H) ⟨p0, h1.re.le l0, x0 H1 h1 x1⟩ (fun i σ H _ ⟨p, a, _⟩ => (st ms H a.st).1) (fun i x σ H H' hi ⟨p, a, xx⟩ y => ?_) fun σ H ⟨p, a, xx⟩ => hd ds ψ p σ H (h1.un a) xx
  obtain ⟨s, hdt⟩ := (st ms H a.st).2 i x H' a.live y
  have hx : ds[i]? = some ds[i] := List.getElem?_eq_getElem hi
  obtain ⟨js, tj⟩ := tg ds ψ i p _ hx
  exact tj ms _ σ H' x (a.same s) (hdt _ hx) _ fun σ2 h2 _ => hs ds ψ H1 i p _ σ2 H' hx h2 (xs i p H H' s a.live xx)
theorem end_all0 {P : PyData → Prop} : EnD K W tNil ρ (fun ds => ds.length = 0 ∧ ∀ d ∈ ds, P d) := end_of ed_nil ⟨rfl, by simp⟩
theorem end_all1 {P : PyData → Prop} {tr : TA} {n : Nat} (h : En K W ta ρ (IsD P)) (hr : EnD K W tr ρ (fun ds => ds.length = n ∧ ∀ d ∈ ds, P d)) : EnD K W (tCons ta tr) ρ (fun ds => ds.length = n + 1 ∧ ∀ d ∈ ds, P d) :=
  (end_cons h hr).imp fun ds ⟨d, es, e, p, l, q⟩ => by
    subst e
    refine ⟨by rw [List.length_cons, l], fun x hx => ?_⟩
    rcases List.mem_cons.mp hx with e | e
    · rw [e]; exact p
    · exact q x e
theorem end_one {P : PyData → Prop} (h : En K W ta ρ (IsD P)) : EnD K W (tCons ta tNil) ρ (fun ds => ∃ d, ds = [d] ∧ P d) := (end_cons h end_nil).imp fun ds ⟨d, es, e, p, q⟩ => ⟨d, by rw [e, q], p⟩
theorem isd_of {P : PyData → Prop} {Ψ : Int → Prop} (h : En K W te ρ (IsI Ψ)) (i : ∀ n, Ψ n → P (.int n)) : En K W te ρ (IsD P) := h.imp fun s ⟨n, e, p⟩ => ⟨.int n, e, i n p⟩
theorem isi_of {P : PyData → Prop} {Ψ : Int → Prop} (h : En K W te ρ (IsD P)) (i : ∀ d, P d → ∃ n, d = .int n ∧ Ψ n) : En K W te ρ (IsI Ψ) := h.imp fun s ⟨d, e, p⟩ => by
  obtain ⟨n, rfl, q⟩ := i d p
  exact ⟨n, e, q⟩
theorem isd_evd {P : PyData → Prop} (h : Evd K W te ρ d) (p : P d) : En K W te ρ (IsD P) := en_of_ev h ⟨d, rfl, p⟩
theorem En.isd {P P' : PyData → Prop} (h : En K W te ρ (IsD P)) (i : ∀ d, P d → P' d) : En K W te ρ (IsD P') := h.imp fun s ⟨d, e, p⟩ => ⟨d, e, i d p⟩
theorem en_eqS {x y : Str} (ha : Evd K W ta ρ (.str x)) (hb : Evd K W tb ρ (.str y)) : EnT K W (tTest (tOp rEq ta tb)) ρ (fun b => b = decide (x = y)) := ent_of (et_test (ev_eqS ha hb)) rfl
/-- an item of a list by a drawn place -/
theorem en_ixL {Ψ : Int → Prop} (ha : Evd K W ta ρ (.list ds)) (hb : En K W tb ρ (IsI Ψ)) (h : ∀ n, Ψ n → 0 ≤ n ∧ n < (ds.length : Int)) : En K W (tOp (rIxL K) ta tb) ρ (IsD fun d => d ∈ ds) :=
  en_op (Φ1 := (· = .dat (.list ds))) (Φ2 := IsI Ψ) (en_of_ev ha rfl) hb fun s1 s2 e1 ⟨n, e2, p⟩ => by
    subst e1 e2
    have hn := h n p
    have hl : n.toNat < ds.length := by omega
    have e : ds[n.toNat]? = some ds[n.toNat] := List.getElem?_eq_getElem hl
    have e3 : n = ((n.toNat : Nat) : Int) := by omega
    have e4 : atI ds n = some ds[n.toNat] := by
      generalize hm : n.toNat = m at *
      subst e3
      exact atI_nat e
    exact ⟨.dat ds[n.toNat], ⟨_, rfl, List.getElem_mem hl⟩, rs_ixL e4⟩
end
end Fw

/-! The frame, 9: what repr and == ask; tests that read one's own list. -/
namespace Fw
open PySem L2
open PyProof.Rows (envOfC)
/-- data that repr shows within B signs -/
structure Say (B n : Nat) (d : PyData) : Prop where
  shp : Shp n d
  sh : d.showable = true
  len : d.shown.length ≤ B
theorem say_int {i : Int} (h : i.natAbs < 2 ^ 200) : Say 62 0 (.int i) := by
  have h61 : i.natAbs < 10 ^ 61 := Nat.lt_of_lt_of_le h (by decide +kernel)
  refine ⟨shp_int i, ?_, ?_⟩
  · unfold PyData.showable
    refine decide_eq_true ?_
    by_cases z : i.natAbs = 0
    · rw [z]; decide
    · exact (Nat.log2_lt z).mpr (Nat.lt_of_lt_of_le h (Nat.pow_le_pow_right (by decide) (by decide)))
  · have e := int_text_length_le10 (k := 61) (by decide) h61
    show (Str.ofString (toString i)).length ≤ 62
    rw [ofString_length]
    exact e
theorem Say.mono {B C n m : Nat} {d : PyData} (h : Say B n d) (l : B ≤ C) (k : n ≤ m) : Say C m d := ⟨h.shp.mono k, h.sh, Nat.le_trans h.len l⟩
theorem say_all {B n : Nat} : ∀ {ds : List PyData}, (∀ d ∈ ds, Say B n d) → PyData.showableAll ds = true ∧ ((PyData.shownAll ds).map (·.length)).sum + 2 * (PyData.shownAll ds).length ≤ (B + 2) * ds.length
  | [], _ => ⟨rfl, by simp [PyData.shownAll]⟩
  | d :: ds, h => by
    have h1 := h d List.mem_cons_self
    have h2 := say_all (ds := ds) fun x hx => h x (List.mem_cons_of_mem _ hx)
    refine ⟨?_, ?_⟩
    · unfold PyData.showableAll
      rw [h1.sh, h2.1]
      rfl
    · unfold PyData.shownAll
      simp only [List.map_cons, List.sum_cons, List.length_cons]
      have := h1.len
      have := h2.2
      have hm : (B + 2) * (ds.length + 1) = (B + 2) * ds.length + (B + 2) := Nat.mul_succ _ _
      omega
theorem say_list {B n m : Nat} {ds : List PyData} (h : ∀ d ∈ ds, Say B n d) (hm : ds.length ≤ m) : Say ((B + 2) * m + 3) (n + 1) (.list ds) := by
  obtain ⟨h1, h2⟩ := say_all h
  refine ⟨shp_list fun d hd => (h d hd).shp, by unfold PyData.showable; exact h1, ?_⟩
  unfold PyData.shown
  have a := listText_len_le (PyData.shownAll ds)
  have b : (B + 2) * ds.length ≤ (B + 2) * m := Nat.mul_le_mul_left _ hm
  omega
theorem say_tuple {B n m : Nat} {ds : List PyData} (h : ∀ d ∈ ds, Say B n d) (hm : ds.length ≤ m) : Say ((B + 2) * m + 3) (n + 1) (.tuple ds) := by
  obtain ⟨h1, h2⟩ := say_all h
  refine ⟨shp_tuple fun d hd => (h d hd).shp, by unfold PyData.showable; exact h1, ?_⟩
  unfold PyData.shown
  have a := tupleText_len_le (PyData.shownAll ds)
  have b : (B + 2) * ds.length ≤ (B + 2) * m := Nat.mul_le_mul_left _ hm
  omega
section
variable {K : PySem.W.Frag} {W : Wd} {ms : List Addr} {B : Bs} {H H' : Hp} {ρ ρ' ρ1 : List Sl} {σ σ' : L2.St} {d e : PyData} {ds : List PyData} {s s1 s2 : Sl} {v : V} {vs : List V} {l : Addr} {i : Nat}
  {ta tb tc te tx tl ti tv tm : TE} {tt t u : TT} {wi : TI} {g : TG} {D : Ends} {ts ts' tz : TS} {Φ Φ1 Φ2 : Sl → Prop}
theorem ev_say {C n : Nat} (h : Evd K W te ρ d) (s : Say C n d) (hC : C ≤ 10000000) (hn : n ≤ 60) (hr : (∃ ds, d = .list ds) ∨ ∃ ds, d = .tuple ds) : Evd K W (tCB (rReprD K) (tCons te tNil)) ρ (.str d.shown) :=
  ev_repr h s.sh (PyData.hasDict_of_canLay d s.shp.1) (Nat.le_trans s.shp.2 hn) (Nat.le_trans s.len (Nat.le_trans hC (by decide))) hr
/-- repr(a) != repr(b), of one thing -/
theorem et_same {C n : Nat} (ha : Evd K W ta ρ d) (hb : Evd K W tb ρ d) (s : Say C n d) (hC : C ≤ 10000000) (hn : n ≤ 60) (hr : (∃ ds, d = .list ds) ∨ ∃ ds, d = .tuple ds) :
    EvT K W (tTest (tOp rNe (tCB (rReprD K) (tCons ta tNil)) (tCB (rReprD K) (tCons tb tNil)))) ρ false := et_eq (et_test (ev_neS (ev_say ha s hC hn hr) (ev_say hb s hC hn hr))) (by simp)
/-- a != b, of one thing -/
theorem et_like {n : Nat} (ha : Evd K W ta ρ d) (hb : Evd K W tb ρ d) (s : Shp n d) (hn : n ≤ 64) : EvT K W (tTest (tOp (rNeD K) ta tb)) ρ false := et_eq (et_test (ev_neD ha hb (s.shaped hn) (s.shaped hn))) (by rw [SeqAt.eqv_refl d s.1]; rfl)
/-- a test that reads one's own list, and fails -/
theorem q_unlessL (h : At K W (l :: ms) B ρ σ H) (o : Own K W (l :: ms) B l ds H) (hm : l ∉ ms) (hr : ρ[i]? = some (.raw (.ref l))) (e : EvT K W tt (ρ.set i (.dat (.list ds))) false) (k : ∀ H', At K W (l :: ms) B ρ σ H' → Own K W (l :: ms) B l ds H' → tz D σ H') : tSeq (tIfS tt ts tNext) tz D σ H := by
  refine e ms (B.off l) σ H (h.off.lend ⟨o.mem, o.nws, o.h0, o.val⟩ hm (by show (if l = l then none else B.hb l) = none; rw [if_pos rfl]) hr) _ fun H1 h1 x1 => ?_
  obtain ⟨vs, el, dd⟩ := o.val
  have e1 := x1 l _ o.nws el
  refine iteF (k H1 (h.go x1 (fun a z => (List.mem_cons.mp z).elim (fun q => by rw [q]; exact ⟨_, e1⟩) (h1.live a)) h1.p) (o.go h.sub x1))
theorem q_unless (h : At K W ms B ρ σ H) (e : EvT K W tt ρ false) (k : ∀ H', At K W ms B ρ σ H' → tz D σ H') : tSeq (tIfS tt ts tNext) tz D σ H := q_when (b := false) h e (fun q => nomatch q) fun _ H' h' _ => k H' h'
theorem s_unless (h : At K W ms B ρ σ H) (e : EvT K W tt ρ false) (k : ∀ H', At K W ms B ρ σ H' → D.nx σ H') : tIfS tt ts tNext D σ H := s_if (b := false) h e (fun q => nomatch q) fun _ H' h' _ => k H' h'
/-- the for over one of several lists; the slots of a turn know its item -/
theorem s_forD {α : Type} {Ψ : List PyData → Prop} {R : Nat → α → List Sl} {S : Nat → α → PyData → List Sl} {X : Nat → α → Hp → Prop} (p0 : α) (h : At K W ms B ρ σ H) (sr : SrcN K W wi ρ Ψ) (l0 : Le (R 0 p0) ρ) (x0 : ∀ H1, At K W ms B ρ σ H1 → XW W.ws H H1 → X 0 p0 H1)
    (tg : ∀ ds, Ψ ds → ∀ i p d, ds[i]? = some d → ∃ js, Tg K W g js d (R i p) (S i p d))
    (hs : ∀ ds, Ψ ds → ∀ Hb i p d σ' H', ds[i]? = some d → At K W ms ⟨B.h0, Hb⟩ (S i p d) σ' H' → X i p H' → ts { D with nx := fun σ H => ∃ p', At K W ms ⟨B.h0, Hb⟩ (R (i + 1) p') σ H ∧ X (i + 1) p' H, ct := fun σ H => ∃ p', At K W ms ⟨B.h0, Hb⟩ (R (i + 1) p') σ H ∧ X (i + 1) p' H, bk := D.nx } σ' H')
    (hd : ∀ ds, Ψ ds → ∀ p σ' H', At K W ms B (R ds.length p) σ' H' → X ds.length p H' → D.nx σ' H') (xs : ∀ i p H H', Same H H' → Live ms H → X i p H → X i p H') : tFor wi g ts D σ H := sr ms B σ H h _ fun ds J H1 ψ h1 x1 stm => by
  obtain ⟨G, Y, wk, st⟩ := stm
  refine for_it wk (fun i σ H => ∃ p, At K W ms ⟨B.h0, H1⟩ (R i p) σ H ∧ X i p H) ⟨p0, h1.re.le l0, x0 H1 h1 x1⟩ (fun i σ H _ ⟨p, a, _⟩ => (st ms H a.st).1) (fun i x σ H H' hi ⟨p, a, xx⟩ y => ?_) fun σ H ⟨p, a, xx⟩ => hd ds ψ p σ H (h1.un a) xx
  obtain ⟨s, hdt⟩ := (st ms H a.st).2 i x H' a.live y
  have hx : ds[i]? = some ds[i] := List.getElem?_eq_getElem hi
  obtain ⟨js, tj⟩ := tg ds ψ i p _ hx
  exact tj ms _ σ H' x (a.same s) (hdt _ hx) _ fun σ2 h2 _ => hs ds ψ H1 i p _ σ2 H' hx h2 (xs i p H H' s a.live xx)
theorem q_forD {α : Type} {Ψ : List PyData → Prop} {R : Nat → α → List Sl} {S : Nat → α → PyData → List Sl} {X : Nat → α → Hp → Prop} (p0 : α) (h : At K W ms B ρ σ H) (sr : SrcN K W wi ρ Ψ) (l0 : Le (R 0 p0) ρ) (x0 : ∀ H1, At K W ms B ρ σ H1 → XW W.ws H H1 → X 0 p0 H1)
    (tg : ∀ ds, Ψ ds → ∀ i p d, ds[i]? = some d → ∃ js, Tg K W g js d (R i p) (S i p d))
    (hs : ∀ ds, Ψ ds → ∀ Hb i p d σ' H', ds[i]? = some d → At K W ms ⟨B.h0, Hb⟩ (S i p d) σ' H' → X i p H' → ts { D with nx := fun σ H => ∃ p', At K W ms ⟨B.h0, Hb⟩ (R (i + 1) p') σ H ∧ X (i + 1) p' H, ct := fun σ H => ∃ p', At K W ms ⟨B.h0, Hb⟩ (R (i + 1) p') σ H ∧ X (i + 1) p' H, bk := tz D } σ' H')
    (hd : ∀ ds, Ψ ds → ∀ p σ' H', At K W ms B (R ds.length p) σ' H' → X ds.length p H' → tz D σ' H') (xs : ∀ i p H H', Same H H' → Live ms H → X i p H → X i p H') : tSeq (tFor wi g ts) tz D σ H :=
  s_forD (D := { D with nx := tz D }) p0 h sr l0 x0 tg hs hd xs
end
end Fw

/-! The frame, 10: the law is entered at the claim's own caller (whose row of guards is empty: repr of lists may be shown). -/
namespace Fw
open PySem L2 PySem.Spec
open PyProof.Rows
section
variable {P : Program} {w : World} {K : PySem.W.Frag} {mg mb : Str → Option Value} {base : Heap}
/-- what a law's body keeps, entered from the caller -/
structure LawAt (P : Program) (w : World) (K : PySem.W.Frag) (mg : Str → Option Value) (x : Str) (st : Stmt) (f : Addr) (fd : FuncData) (k n : Nat) (p : Str) : Prop where
  fn : Fun K x x st f fd
  nm : ∃ N : List Str, FnScope N [p] (defScope st) ∧ ∀ (base : Heap) (cdv : Value) (s : Shared) (H : Hp), Mod K mg base → Room k (callerA.deeper (envOfC x (defScope st) s.heap.objs.size f cdv)) →
    ∃ t, PSs (cxOf CX0 P w K mg base N x (defScope st) f cdv callerA [] s H E0).nox (defBody st) t ∧
      ∀ (a : Addr) (ns : List Int), ns.length ≤ n → At K W0 [] ⟨H, H⟩ (slots N.length [.list (ns.map .int)]) (L2.start N [.ref a]) H → t { nx := fun _ _ => False, rt := fun v _ => v = .bl true } (L2.start N [.ref a]) H
theorem law_runs {x p : Str} {st : Stmt} {f a : Addr} {fd : FuncData} {k n : Nat} {s : Shared} {H : Hp} {ns : List Int} (L : LawAt P w K mg x st f fd k n p) (hr : Room (k + 1) callerA)
    (e0 : Env0 P w K mg base callerA [] s H) (hb : BindsTo s fd ⟨[.ref a], []⟩ [(p, .ref a)]) (hl : ns.length ≤ n) (hS : SqL K H a (ns.map .int)) :
    codeAny (model P w) callerA (.call (.ref f) ⟨[.ref a], []⟩) (CR CX0 [] P w H s (fun v _ => v = .bl true) E0) s := by
  obtain ⟨cl, od, kV, doc, pm, an, cdv, ct, osl, rfl, found, hc⟩ := L.fn.ex
  obtain ⟨N, S, hN⟩ := L.nm
  have KX : K.In s.heap := e0.mod.kin.keeps fun b o q => (e0.bs b o q).1
  refine codeAny_call_function (hroom := hr.depth) (KX _ _ found) rfl S.co S.gen rfl (PySem.W.codeRec_of KX hc) (hb _ _ _ _ ?_)
  refine wpAny_newFunctionEnv_cells S.kind (fun y hy => ?_) fun env he s1 z => ?_
  · obtain rfl : y = (p, .ref a) := List.mem_singleton.mp hy
    rcases S.par p List.mem_cons_self with q | q
    · exact .inl q
    · exact .inr ⟨q, PySem.W.cellsFrom_some _ _ _ (.inl q)⟩
  subst he
  refine ⟨e0.mod.nolimit.keeps fun b o q => z.toInCall.keep b o ((e0.bs b o q).1), codeAny_func ?_⟩
  obtain ⟨t, ht, hq⟩ := hN base cdv s H e0.mod (hr.deeper _)
  have I : Inv (cxOf CX0 P w K mg base N x (defScope st) f cdv callerA [] s H E0) [] (L2.start N [.ref a]) H s1 := inv_start (us := [.ref a]) S hr.hd e0 rfl (.cons rfl .nil) z
  have h0 : At K W0 [] ⟨H, H⟩ (slots N.length [.list (ns.map .int)]) (L2.start N [.ref a]) H := at_start (fun b q => by cases q) (.cons (.lst (sql_mono (fun b o q => by rw [cut_out (by simp)]; exact q) hS) (dpa_of_ints _ _ _)) .nil)
  refine wpAny_mono (ht.nox.run [] s1 _ H _ I (hq a ns hl h0)) (fun fl s' g => ?_) fun e s' g => g
  cases fl with
  | ret u =>
    obtain ⟨v, σ', H', J, rv, q⟩ := g
    exact ⟨v, H', J.os, J.bare, J.base, J.hok, rv, q⟩
  | next => obtain ⟨_, _, _, q⟩ := g; exact q.elim
  | brk => obtain ⟨_, _, _, q⟩ := g; exact q.elim
  | cont => obtain ⟨_, _, _, q⟩ := g; exact q.elim
/-- the heap as the law sees it: nothing tracked but the script -/
theorem heap_of {s : Shared} {a : Addr} {vs : List Value} {ns : List Int} (KX : K.In s.heap) (ha : s.heap.get? a = some { cls := .type "list", data := .seq vs.toArray }) (hi : IntsAre vs ns) (hl : ns.length ≤ sizeLine) :
    ∃ H : Hp, (∀ b u, H b = some u → b = a ∧ ∃ o xs, u = .frz o (.lst xs)) ∧ SqL K H a (ns.map .int) ∧ HOk P w H s.heap ∧ (H a ≠ none → K.lookup a = none) := by
  have rv := vals_ints hi
  cases hk : K.lookup a with
  | some o =>
    have e := KX a o hk
    rw [ha] at e
    cases e
    exact ⟨fun _ => none, fun b u q => (nomatch (show (none : Option HO) = some u from q)), .inr ⟨_, vs.toArray, _, hk, rfl, rfl, rfl, by rw [List.size_toArray, hi.length]; exact hl, by simpa using rv⟩, fun b u q => (nomatch (show (none : Option HO) = some u from q)), fun q => absurd rfl q⟩
  | none =>
    have at_ : ∀ b u, (if b = a then some (HO.frz { cls := .type "list", data := .seq vs.toArray } (.lst (ns.map .int))) else none) = some u → b = a ∧ u = .frz { cls := .type "list", data := .seq vs.toArray } (.lst (ns.map .int)) := fun b u q => by
      split at q
      · cases q
        exact ⟨by assumption, rfl⟩
      · cases q
    refine ⟨fun b => if b = a then some (.frz { cls := .type "list", data := .seq vs.toArray } (.lst (ns.map .int))) else none, fun b u q => ?_, .inl (.inr ⟨{ cls := .type "list", data := .seq vs.toArray }, if_pos rfl⟩), fun b u q => ?_, fun _ => rfl⟩
    · obtain ⟨rfl, rfl⟩ := at_ b u q
      exact ⟨rfl, _, _, rfl⟩
    · obtain ⟨rfl, rfl⟩ := at_ b u q
      exact ⟨ha, by rw [List.length_map]; exact hl, vs, _, rv, ha⟩
theorem law_from {x p : Str} {st : Stmt} {f a : Addr} {fd : FuncData} {k n : Nat} {s : Shared} {vs : List Value} {ns : List Int} (KX : K.In s.heap) (g1 : s.heap.Ns mainGlobals mg) (g2 : s.heap.Ns builtinsNs mb) (g3 : ∀ y : Str, y ≠ "__name__" → mb y = bootBuiltins y)
    (g4 : s.heap.NoLimit) (g5 : s.gens = #[]) (ha : s.heap.get? a = some { cls := .type "list", data := .seq vs.toArray }) (hi : IntsAre vs ns) (hl : ns.length ≤ n) (hn : n ≤ sizeLine) (hr : Room (k + 1) callerA) (L : LawAt P w K mg x st f fd k n p)
    (hb : ∀ (s : Shared) (u : Value), BindsTo s fd ⟨[u], []⟩ [(p, u)]) :
    codeAny (model P w) callerA (.call (.ref f) ⟨[.ref a], []⟩) (fun r s' => r = .ok (.ret (.bool true)) ∧ OldK s.heap s'.heap ∧ s'.os = s.os ∧ AllBare s'.gens) s := by
  obtain ⟨H, only, hS, hok, hK⟩ := heap_of (P := P) (w := w) KX ha hi (Nat.le_trans hl hn)
  have free : ∀ {b : Addr} {o : Obj}, s.heap.get? b = some o → (b = a → False) → (hidT s.heap H).get? b = some o := fun {b o} e z => hidT_get e (by
    cases q : H b with
    | none => rfl
    | some u => exact (z (only b u q).1).elim)
  have spaces : ∀ {b : Addr} {m : Str → Option Value}, s.heap.Ns b m → (hidT s.heap H).Ns b m := fun {b m} ⟨o, es, ep, e, d, r⟩ => ⟨o, es, ep, free e (fun z => by
    subst z
    rw [ha] at e
    cases e
    exact nomatch (show Data.seq vs.toArray _ = Data.dict es ep from d)), d, r⟩
  have KH : K.In (hidT s.heap H) := fun b o e => hidT_get (KX b o e) (by
    cases q : H b with
    | none => rfl
    | some u =>
      obtain ⟨rfl, _⟩ := only b u q
      rw [hK (by rw [q]; simp)] at e
      cases e)
  have M : Mod K mg (hidT s.heap H) := ⟨KH, spaces g1, ⟨mb, spaces g2, g3⟩, let ⟨mc, h1, h2⟩ := g4; ⟨mc, spaces h1, h2⟩⟩
  have e0 : Env0 P w K mg (hidT s.heap H) callerA [] s H := ⟨rfl, M, fun b o e => of_hidT e, Nat.le_of_eq (hidT_size _ _), trivial, fun b z => (nomatch (show b ∈ ([] : List Addr) from z)), hok, .of_eq g5⟩
  refine codeAny_mono (law_runs L hr e0 (hb s (.ref a)) hl hS) fun r s' h => ?_
  match r, h with
  | .error e, h => exact h.elim
  | .ok .next, h => exact h.elim
  | .ok .brk, h => exact h.elim
  | .ok .cont, h => exact h.elim
  | .ok (.ret u), h =>
    obtain ⟨v, H2, os, bare, un, ok2, rel, q⟩ := h
    obtain rfl : v = .bl true := q
    obtain rfl : u = Value.bool true := rel
    refine ⟨rfl, OldK.of_keep fun b o e => ?_, os, bare⟩
    cases q : H b with
    | none => exact un.keep b o e q (fun z => nomatch (show b ∈ ([] : List Addr) from z)) (by simp)
    | some u2 =>
      obtain ⟨_, ob, xs, rfl⟩ := only b u2 q
      obtain ⟨e1, _⟩ := hok b _ q
      obtain ⟨e2, _⟩ := ok2 b _ (un.frzs b ob _ q)
      rw [e] at e1
      cases e1
      exact e2
end
/-- the end of a row whose law shows lists -/
theorem walk_at {l : PySem.W.OpenLaw} {q : Program} {n k : Nat} {loose : List Str} {XP : (Str → Option Value) → Heap → Prop} {YP : World → Heap → Prop} {d : DefRec} {K : Params → PySem.W.Frag} {st : Stmt} {p : Str} (hn : l.most = some n) (hn2 : n ≤ sizeLine) (hdf : d.params.defaults = []) (hr : Room (k + 1) callerA)
    (hY : ∀ (w : World) (h : Heap), YP w h → (K w.params).In h)
    (F : ∀ (w : World) (mg : Str → Option Value) (fa : Addr) (h : Heap), (K w.params).In h → h.Ns mainGlobals mg → XP mg h → mg d.name = some (.ref fa) →
      ∃ fd : FuncData, (∀ (s : Shared) (u : Value), BindsTo s fd ⟨[u], []⟩ [(p, u)]) ∧ LawAt l.prog w (K w.params) mg d.name st fa fd k n p) :
    PySem.W.WalkO q loose XP YP l.row.toRowW d [] (fun f vs => PySem.call f vs) := by
  refine Att.attach_call hn hdf fun w s0 s1 mg mb fa o pm cd doc a vs ns G Y _ _ _ hm ha hi hl hg => ?_
  have KX := hY w _ Y
  obtain ⟨fd, hb, L⟩ := F w mg fa _ KX G.T.g G.X hm
  exact law_from KX G.T.g G.T.b G.T.builtins G.T.nolimit hg ha hi hl hn2 hr L hb
end Fw

/-! The frame, 11: sorted pairs, places of items, slices, sums of lists, tuples that are compared. -/
namespace Fw
open PySem L2
open PyProof.Rows (envOfC)
def pairI (p : Int × Int) : PyData := .tuple [.int p.1, .int p.2]
/-- an item that is a tuple of two ints -/
def PairV (K : PySem.W.Frag) (H : Hp) (x : V) (p : Int × Int) : Prop := ∃ t, x = .ref t ∧ SqT K H t [.int p.1, .int p.2]
def lexLe (p q : Int × Int) : Prop := p.1 < q.1 ∨ (p.1 = q.1 ∧ p.2 ≤ q.2)
def rSortedPD (K : PySem.W.Frag) : List V → Hp → VK → Prop := fun vs H Q => ∃ (a : Addr) (xs : List V) (ps : List (Int × Int)), vs = [.ref a] ∧ SqL K H a xs ∧ Paired (PairV K H) xs ps ∧
  ∀ ys p qs, (∀ R : V → Int × Int → Prop, Paired R xs ps → Paired R ys qs) → qs.Perm ps → qs.Pairwise lexLe → H p = none → Q (.ref p) (upd H p (.lst ys))
theorem paired_mem {α β : Type} {Φ : α → β → Prop} : ∀ {xs : List α} {ps : List β}, Paired Φ xs ps → ∀ x ∈ xs, ∃ p ∈ ps, Φ x p
  | _, _, .nil, x, h => nomatch h
  | _, _, .cons a t, x, h => by
    rcases List.mem_cons.mp h with e | e
    · subst e; exact ⟨_, List.mem_cons_self, a⟩
    · obtain ⟨p, hp, q⟩ := paired_mem t x e
      exact ⟨p, List.mem_cons_of_mem _ hp, q⟩
theorem paired_of {α β : Type} {Φ : α → β → Prop} (k : α → β) : ∀ {xs : List α}, (∀ x ∈ xs, Φ x (k x)) → Paired Φ xs (xs.map k)
  | [], _ => .nil
  | x :: xs, h => .cons (h x List.mem_cons_self) (paired_of k fun y hy => h y (List.mem_cons_of_mem _ hy))
theorem paired_fun {α β : Type} {Φ : α → β → Prop} (k : α → β) (u : ∀ x p, Φ x p → p = k x) : ∀ {xs : List α} {ps : List β}, Paired Φ xs ps → ps = xs.map k
  | _, _, .nil => rfl
  | _, _, .cons a t => by rw [List.map_cons, ← u _ _ a, ← paired_fun k u t]
theorem paired_at {α β : Type} {Φ : α → β → Prop} {k : α → β} : ∀ {xs : List α}, Paired Φ xs (xs.map k) → ∀ x ∈ xs, Φ x (k x)
  | [], _, x, h => nomatch h
  | y :: xs, t, x, h => by
    cases t with
    | cons a t =>
      rcases List.mem_cons.mp h with e | e
      · subst e; exact a
      · exact paired_at t x e
/-- the two ints that stand at v -/
def pairAt (h : Heap) (v : Value) : Int × Int := match v with
  | .ref t => match h.get? t with
    | some o => match o.data with
      | .seq vs _ => match vs.toList with
        | [.int i _, .int j _] => (i, j)
        | _ => (0, 0)
      | _ => (0, 0)
    | none => (0, 0)
  | _ => (0, 0)
section
variable {X : Cx}
theorem cr_sortedPD : CallR X (.builtin "sorted") (rSortedPD X.K) := by
  intro pins s σ H vs us Q I r h
  obtain ⟨a, xs, ps, rfl, hs, hx, q⟩ := h
  obtain ⟨its, rv, hl, hz⟩ := I.list hs
  obtain ⟨u, rfl, ru⟩ := vals1 r
  obtain rfl : u = Value.ref a := ru
  obtain ⟨e1, e2⟩ := refs_back rv fun x m => by
    obtain ⟨_, _, t, e, _⟩ := paired_mem hx x m
    exact ⟨t, e⟩
  have key : ∀ (x : V) (p : Int × Int), PairV X.K H x p → ∃ t, x = .ref t ∧ Srt.IsPair s.heap (.ref t) p.1 p.2 ∧ pairAt s.heap (.ref t) = p := fun x p hp => by
    obtain ⟨t, rfl, st⟩ := hp
    obtain ⟨its2, r2, ⟨o, ho, hc, n, hd⟩, _⟩ := I.tuple st
    obtain ⟨u1, u2, rfl, ri, rj⟩ := vals2 r2
    obtain ⟨t1, rfl⟩ := ri
    obtain ⟨t2, rfl⟩ := rj
    exact ⟨t, rfl, ⟨t, o, t1, t2, n, rfl, ho, hc, hd⟩, by unfold pairAt; simp only [ho, hd]⟩
  have kb : ∀ v ∈ its, ∃ t p, v = .ref t ∧ V.ref t ∈ xs ∧ PairV X.K H (.ref t) p ∧ Srt.IsPair s.heap (.ref t) p.1 p.2 ∧ pairAt s.heap (.ref t) = p := fun v hv => by
    obtain ⟨t, rfl⟩ := e2 v hv
    have hm : V.ref t ∈ xs := by rw [e1]; exact List.mem_map.mpr ⟨_, hv, rfl⟩
    obtain ⟨p, _, hp⟩ := paired_mem hx _ hm
    obtain ⟨t', e, ip, pa⟩ := key _ _ hp
    cases e
    exact ⟨t, p, rfl, hm, hp, ip, pa⟩
  refine SrtO.sorted_pairsO (k := pairAt s.heap) hl.isList (by rw [← rv.length]; exact hz) (fun v hv => ?_) fun h' d out h1 h2 kp hd hn => ?_
  · obtain ⟨t, p, rfl, _, _, ip, pa⟩ := kb v hv
    rw [pa]
    exact ip
  · have ho : ∀ v ∈ out, v ∈ its := fun v hv => h2.perm.mem_iff.mp hv
    obtain ⟨n, hn⟩ := hn
    let kk : V → Int × Int := fun x => match x with | .ref t => pairAt s.heap (.ref t) | _ => (0, 0)
    have e3 : ∀ l : List Value, (∀ v ∈ l, v ∈ its) → l.map (pairAt s.heap) = (l.map backV).map kk := fun l hl => by
      rw [List.map_map]
      refine List.map_congr_left fun v hv => ?_
      obtain ⟨t, p, rfl, _⟩ := kb v (hl v hv)
      rfl
    have eps0 : ps = xs.map kk := paired_fun kk (fun x p hp => by
        obtain ⟨t, rfl, _, pa⟩ := key x p hp
        exact pa.symm) hx
    have eps : ps = its.map (pairAt s.heap) := by
      rw [e3 its fun _ z => z, eps0, ← e1]
    have ys : ∀ R : V → Int × Int → Prop, Paired R xs ps → Paired R (out.map backV) (out.map (pairAt s.heap)) := fun R hR => by
      rw [e3 out ho]
      refine paired_of kk fun y hy => ?_
      obtain ⟨v, hv, rfl⟩ := List.mem_map.mp hy
      rw [eps0] at hR
      exact paired_at hR _ (by rw [e1]; exact List.mem_map.mpr ⟨v, ho v hv, rfl⟩)
    have hb : (out.map (pairAt s.heap)).Perm ps := by
      rw [eps]
      exact h2.perm.map _
    have hs : (out.map (pairAt s.heap)).Pairwise lexLe := by
      refine List.pairwise_map.mpr (h1.imp fun {x y} z => ?_)
      have := SrtO.lexB_no.mp z
      unfold lexLe
      omega
    refine ⟨.ref d, upd H d (.lst (out.map backV)), I.laid (t' := s.toks) kp hd ⟨?_, out, n, vals_back (fun v hv => e2 v (ho v hv)), hn⟩, rfl, q _ d _ ys hb hs (I.hok.fresh hd)⟩
    rw [List.length_map, h2.perm.length_eq, ← rv.length]
    exact hz
/-- list + list, of any two lists -/
def rCatD (K : PySem.W.Frag) : R2 := fun x y H Q => ∃ l b xs zs, x = .ref l ∧ y = .ref b ∧ SqL K H l xs ∧ SqL K H b zs ∧ xs.length + zs.length ≤ sizeLine ∧ ∀ p, H p = none → Q (.ref p) (upd H p (.lst (xs ++ zs)))
theorem op_catD : OpR X (binaryOp .Add) (rCatD X.K) := by
  intro pins s σ H x y v u Q I rx ry ⟨l, b, xs, zs, ex, ey, hx, hy, hz, q⟩
  subst ex ey
  cases rx
  cases ry
  obtain ⟨i1, r1, ⟨⟨c1, d1, t1, sl1⟩, n1, g1, k1, _, w1⟩, _⟩ := I.list hx
  obtain ⟨i2, r2, ⟨⟨c2, d2, t2, sl2⟩, n2, g2, k2, _, w2⟩, _⟩ := I.list hy
  simp only at k1 w1 k2 w2
  subst k1 w1 k2 w2
  have e : i1.toArray ++ i2.toArray = (i1 ++ i2).toArray := by simp
  have hl : i1.toArray.size + i2.toArray.size ≤ sizeLine := by
    rw [List.size_toArray, List.size_toArray, ← r1.length, ← r2.length]
    exact hz
  refine concat_meets ⟨_, g1, rfl⟩ ⟨_, g2, rfl⟩ noFill_list_add seq_list_add PySem.F.slot_list_add PySem.F.entry_list_add (PySem.F.args_list_add_2 _ _)
    (PyProof.Rows.list_addW l b i1.toArray i2.toArray n1 n2 d1 d2 sl1 sl2 hl) ⟨g1, g2, ?_⟩
  rw [e]
  exact ⟨.ref _, _, I.lnew (t' := s.toks) (r1.append r2) (by rw [List.length_append]; exact hz), rfl, q _ I.fresh⟩
end
section
variable {K : PySem.W.Frag} {W : Wd} {ms : List Addr} {B : Bs} {H H' : Hp} {ρ ρ' ρ1 : List Sl} {σ σ' : L2.St} {d e : PyData} {ds es : List PyData} {s s1 s2 : Sl} {v : V} {vs : List V} {l : Addr} {i : Nat}
  {ta tb tc te tx tl ti tv tm : TE} {tt t u : TT} {wi : TI} {g : TG} {D : Ends} {ts ts' tz : TS} {Φ Φ1 Φ2 : Sl → Prop}
theorem dpa_take : ∀ {ds : List PyData} {vs : List V} (j : Nat), DpAll K H vs ds → DpAll K H (vs.take j) (ds.take j)
  | [], _, j, h => by cases h; simp; exact .nil
  | d :: ds, _, 0, h => by simp; exact .nil
  | d :: ds, _, j + 1, h => by
    cases h with
    | cons a t => rw [List.take_succ_cons, List.take_succ_cons]; exact .cons a (dpa_take j t)
theorem dpa_drop : ∀ {ds : List PyData} {vs : List V} (j : Nat), DpAll K H vs ds → DpAll K H (vs.drop j) (ds.drop j)
  | [], _, j, h => by cases h; simp; exact .nil
  | d :: ds, _, 0, h => h
  | d :: ds, _, j + 1, h => by
    cases h with
    | cons a t => rw [List.drop_succ_cons, List.drop_succ_cons]; exact dpa_drop j t
theorem ev_cat (ha : Evd K W ta ρ (.list ds)) (hb : Evd K W tb ρ (.list es)) (hz : ds.length + es.length ≤ 100000) : Evd K W (tOp (rCatD K) ta tb) ρ (.list (ds ++ es)) := ev_op ha hb fun ms H x y lv hx hy Q q => by
  cases hx with
  | lst sx dx => cases hy with
    | lst sy dy => exact ⟨_, _, _, _, rfl, rfl, sql_mono cut_le sx, sql_mono cut_le sy, by rw [dpa_len dx, dpa_len dy]; exact le_line hz, fun p hp => q _ _ (same_put hp) (Sl.new_lst lv hp (dpa_app dx dy))⟩
theorem ev_till {j : Nat} (ha : Evd K W ta ρ (.list ds)) (hb : Evd K W tb ρ (.int (j : Int))) (hj : j ≤ ds.length) : Evd K W (tSl (rSlL K) ta tNoPart (tPart tb)) ρ (.list (ds.take j)) := fun ms B σ H a Q q => ha ms B σ H a _ fun v H1 h1 x1 o1 => hb ms B σ H1 h1 _ fun w H2 h2 x2 o2 => by
  cases o2
  have o3 := dp_mono (x2.cut h1.sub) _ _ o1
  cases o3 with
  | lst sx dx =>
    refine ⟨_, rfl, _, _, rfl, sql_mono cut_le sx, fun p hp => q _ _ (h2.same (same_put hp)) ((x1.trans x2).trans (.of_same (same_put hp))) ?_⟩
    have e : ∀ xs : List V, xs.length = ds.length → cutV xs none (some (j : Int)) = xs.take j := fun xs hx => by
      unfold cutV
      rw [HT.sIx_none, HT.sIx_nat, List.drop_zero, Nat.sub_zero, hx, Nat.min_eq_left hj]
    rw [e _ (dpa_len dx)]
    exact Sl.new_lst h2.live hp (dpa_take j dx)
theorem ev_from {j : Nat} (ha : Evd K W ta ρ (.list ds)) (hb : Evd K W tb ρ (.int (j : Int))) (hj : j ≤ ds.length) : Evd K W (tSl (rSlL K) ta (tPart tb) tNoPart) ρ (.list (ds.drop j)) := fun ms B σ H a Q q => ha ms B σ H a _ fun v H1 h1 x1 o1 => hb ms B σ H1 h1 _ fun w H2 h2 x2 o2 => by
  cases o2
  have o3 := dp_mono (x2.cut h1.sub) _ _ o1
  cases o3 with
  | lst sx dx =>
    refine ⟨_, rfl, _, _, rfl, sql_mono cut_le sx, fun p hp => q _ _ (h2.same (same_put hp)) ((x1.trans x2).trans (.of_same (same_put hp))) ?_⟩
    have e : ∀ xs : List V, xs.length = ds.length → cutV xs (some (j : Int)) none = xs.drop j := fun xs hx => by
      unfold cutV
      rw [HT.sIx_none, HT.sIx_nat, hx, Nat.min_eq_left hj, List.take_of_length_le (by rw [List.length_drop, hx]; exact Nat.le_refl _)]
    rw [e _ (dpa_len dx)]
    exact Sl.new_lst h2.live hp (dpa_drop j dx)
theorem ev_ltT {ns ks : List Int} (ha : Evd K W ta ρ (.tuple (ns.map .int))) (hb : Evd K W tb ρ (.tuple (ks.map .int))) : Evd K W (tOp (rLtT K) ta tb) ρ (.bool (HT.lexLt ns ks)) := ev_op ha hb fun ms H x y lv hx hy Q q => by
  cases hx with
  | tup sx dx => cases hy with
    | tup sy dy =>
      obtain rfl := dpa_ints dx
      obtain rfl := dpa_ints dy
      exact ⟨_, _, _, _, rfl, rfl, sqt_mono cut_le sx, sqt_mono cut_le sy, q _ H (Same.refl H) (.bl _)⟩
theorem ev_place {ns : List Int} {j : Nat} {x : Int} (ha : Evd K W ta ρ (.list (ns.map .int))) (hb : Evd K W tb ρ (.int x)) (hj : ns[j]? = some x) (hno : ∀ m : Nat, m < j → ns[m]? ≠ some x) : Evd K W (tBM K "list" (rIndex K) ta (tCons tb tNil)) ρ (.int (j : Int)) := fun ms B σ H a Q q => ha ms B σ H a _ fun v H1 h1 x1 o1 => by
  cases o1 with
  | lst sx dx =>
    obtain rfl := dpa_ints dx
    refine ⟨.inl ⟨rfl, _, sql_mono cut_le sx⟩, hb ms B σ H1 h1 _ fun w H2 h2 x2 o2 => ?_⟩
    cases o2
    refine ⟨_, _, _, j, .int x, rfl, rfl, sql_mono ((x2.cut h1.sub).trans cut_le) sx, rfl, List.all_eq_true.mpr fun z hz => ?_, by rw [List.getElem?_map, hj]; rfl, by simp [eqV], fun m z hm hz => ?_, q _ H2 h2 (x1.trans x2) (.int _)⟩
    · obtain ⟨n, _, rfl⟩ := List.mem_map.mp hz
      rfl
    · rw [List.getElem?_map] at hz
      cases e : ns[m]? with
      | none => rw [e] at hz; cases hz
      | some n =>
        rw [e] at hz
        cases hz
        have := hno m hm
        rw [e] at this
        show (n == x) = false
        exact beq_eq_false_iff_ne.mpr fun z => this (by rw [z])
theorem ev_neg {j : Int} (h : Evd K W te ρ (.int j)) : Evd K W (tUn (rU fun i => .int (-i)) te) ρ (.int (-j)) := fun ms B σ H a Q q => h ms B σ H a _ fun v H1 h1 x1 o1 => by
  cases o1
  exact ⟨j, rfl, q _ H1 h1 x1 (.int _)⟩
/-- sorted(pairs of ints) -/
theorem ef_sortedP {ps : List (Int × Int)} (h : Evd K W te ρ (.list (ps.map pairI))) : EvF K W (tCB (rSortedPD K) (tCons te tNil)) ρ (fun es => ∃ qs : List (Int × Int), es = qs.map pairI ∧ qs.Perm ps ∧ qs.Pairwise lexLe) := fun ms B σ H a Q q => h ms B σ H a _ fun v H1 h1 x1 o1 => by
  cases o1 with
  | @lst _ xs _ sx dx =>
    have conv : ∀ {ps : List (Int × Int)} {xs : List V}, DpAll K (cut ms H1) xs (ps.map pairI) → Paired (fun x p => PairV K H1 x p ∧ Dp K (cut ms H1) x (pairI p)) xs ps := fun {ps} => by
      induction ps with
      | nil => intro xs h; cases h; exact .nil
      | cons p ps ih =>
        intro xs h
        cases h with
        | cons a t =>
          refine .cons ⟨?_, a⟩ (ih t)
          cases a with
          | tup st da =>
            obtain rfl := dpa_ints (ns := [p.1, p.2]) da
            exact ⟨_, rfl, sqt_mono cut_le st⟩
    have back : ∀ {qs : List (Int × Int)} {ys : List V}, Paired (fun x p => PairV K H1 x p ∧ Dp K (cut ms H1) x (pairI p)) ys qs → DpAll K (cut ms H1) ys (qs.map pairI) := fun {qs ys} h => by
      induction h with
      | nil => exact .nil
      | cons a _ ih => exact .cons a.2 ih
    have pp := conv dx
    have strip : ∀ {qs : List (Int × Int)} {ys : List V}, Paired (fun x p => PairV K H1 x p ∧ Dp K (cut ms H1) x (pairI p)) ys qs → Paired (PairV K H1) ys qs := fun {qs ys} h => by
      induction h with
      | nil => exact .nil
      | cons a _ ih => exact .cons a.1 ih
    have p0 := strip pp
    refine ⟨_, _, ps, rfl, sql_mono cut_le sx, p0, fun ys p qs hR hp hs hn => ?_⟩
    have hp0 : H p = none := by
      have hw := (h1.fresh hn).2.2
      cases z : H p with
      | none => rfl
      | some o => rw [x1 p o hw z] at hn; cases hn
    exact q _ p ys _ ⟨qs, rfl, hp, hs⟩ (h1.same (same_put hn)) (x1.trans (.of_same (same_put hn))) hp0 upd_same (dpa_mono ((cut_new hn).trans cut_drop) _ _ (back (hR _ pp)))
end
end Fw

/-! The frame, 12: bools shown and compared; the last item. -/
namespace Fw
open PySem L2
open PyProof.Rows (envOfC)
def rReprB : List V → Hp → VK → Prop := fun xs H Q => ∃ b : Bool, xs = [.bl b] ∧ Q (.str (if b then "True" else "False")) H
theorem cr_reprB {X : Cx} : CallR X (.builtin "repr") rReprB := by
  intro pins s σ H xs us Q I r ⟨b, e, q⟩
  subst e
  obtain ⟨u, rfl, ru⟩ := vals1 r
  obtain rfl : u = Value.bool b := ru
  exact PySem.P.repr_of_bool ⟨.str _, H, I.tok _, ⟨_, rfl⟩, q⟩
section
variable {K : PySem.W.Frag} {W : Wd} {ρ : List Sl} {ta tb te : TE} {ds : List PyData}
theorem ev_reprB {b : Bool} (h : Evd K W te ρ (.bool b)) : Evd K W (tCB rReprB (tCons te tNil)) ρ (.str (if b then "True" else "False")) := fun ms B σ H a Q q => h ms B σ H a _ fun v H1 h1 x1 o1 => by
  cases o1
  exact ⟨b, rfl, q _ H1 h1 x1 (.str _)⟩
theorem ev_notB {a b : Bool} (ha : Evd K W ta ρ (.bool a)) (hb : Evd K W tb ρ (.bool b)) : Evd K W (tOp rNotB ta tb) ρ (.bool (!decide (a = b))) := ev_op ha hb fun ms H x y _ hx hy Q q => by
  cases hx
  cases hy
  exact ⟨a, b, rfl, rfl, q _ H (Same.refl H) (.bl _)⟩
theorem atI_last {d : PyData} (h : ds[ds.length - 1]? = some d) : atI ds (-1) = some d := by
  have l : ds.length - 1 < ds.length := (List.getElem?_eq_some_iff.mp h).1
  unfold atI ixN
  rw [if_neg (by decide), if_pos (by omega)]
  show ds[(-1 + (ds.length : Int)).toNat]? = some d
  rw [show (-1 + (ds.length : Int)).toNat = ds.length - 1 by omega]
  exact h
end
end Fw

/-! The frame, 13: list(range(..)), extend, while, two lists of one's own. -/
namespace Fw
open PySem L2
open PyProof.Rows (envOfC)
section
variable {X : Cx} {e a b : Expr} {te ta tb : TE} {p pos : Pos}
theorem krgA1 (hm : X.mg "range" = none) (ha : PE X a ta) (hg : X.env.kindOf "range" = some .globalImplicit := by kernel_rfl) (na : starEach [a] X.env = (false, eval a X.env) :: starEach [] X.env := by kernel_rfl) : PRg X (.Call (.Name "range" p) [a] [] pos) (tRg1 ta) := prg_1 hg hm ha na
theorem krgA2 (hm : X.mg "range" = none) (ha : PE X a ta) (hb : PE X b tb) (hg : X.env.kindOf "range" = some .globalImplicit := by kernel_rfl) (na : starEach [a, b] X.env = (false, eval a X.env) :: starEach [b] X.env := by kernel_rfl)
    (nb : starEach [b] X.env = (false, eval b X.env) :: starEach [] X.env := by kernel_rfl) (hp : (backTo pos (starEach [b] X.env)).any (·.1) = false := by kernel_rfl) : PRg X (.Call (.Name "range" p) [a, b] [] pos) (tRg2 ta tb) := prg_2 hg hm ha hb na nb hp
theorem klstRg {t : L2.St → Hp → (Int → Int → Hp → Prop) → Prop} (hm : X.mg "list" = none) (he : PRg X e t) (hc : X.calm = true := by rfl) (hg : X.env.kindOf "list" = some .globalImplicit := by kernel_rfl) (na : starEach [e] X.env = (false, eval e X.env) :: starEach [] X.env := by kernel_rfl) : PE X (.Call (.Name "list" p) [e] [] pos) (tLstRg t) := pe_listRg hc hg hm he na
end
section
variable {K : PySem.W.Frag} {W : Wd} {ms : List Addr} {B : Bs} {H H' : Hp} {ρ ρ' ρ1 : List Sl} {σ σ' : L2.St} {d e : PyData} {ds es ds1 ds2 : List PyData} {s s1 s2 : Sl} {v : V} {vs : List V} {l l1 l2 : Addr} {i j : Nat}
  {ta tb tc te tx tl ti tv tm : TE} {tt t u : TT} {wi : TI} {g : TG} {D : Ends} {ts ts' tz : TS} {Φ Φ1 Φ2 : Sl → Prop}
theorem dpa_rg (K : PySem.W.Frag) (H : Hp) (a b : Int) : DpAll K H (rgV a b) ((List.range (b - a).toNat).map fun i => PyData.int (a + (i : Nat))) := by
  have h := dpa_of_ints K H ((List.range (b - a).toNat).map fun i => a + (i : Nat))
  rw [List.map_map, List.map_map] at h
  exact h
theorem ef_rg {a b : Int} (h1 : Evd K W ta ρ (.int a)) (h2 : Evd K W tb ρ (.int b)) (ha : -1000000 ≤ a ∧ a ≤ 1000000) (hb : -1000000 ≤ b ∧ b ≤ 1000000) : EvF K W (tLstRg (tRg2 ta tb)) ρ (· = (List.range (b - a).toNat).map fun i => PyData.int (a + (i : Nat))) := fun ms B σ H g Q q =>
  h1 ms B σ H g _ fun x H1 g1 x1 o1 => h2 ms B σ H1 g1 _ fun y H2 g2 x2 o2 => by
    cases o1
    cases o2
    refine ⟨a, b, rfl, rfl, ⟨by omega, by omega, by omega, by omega, by omega⟩, fun p hp => ?_⟩
    have hp0 : H p = none := by
      have hw := (g2.fresh hp).2.2
      cases z : H p with
      | none => rfl
      | some o => rw [(x1.trans x2) p o hw z] at hp; cases hp
    exact q _ p _ _ rfl (g2.same (same_put hp)) ((x1.trans x2).trans (.of_same (same_put hp))) hp0 upd_same (dpa_rg K _ a b)
/-- l.extend(a new list) -/
theorem s_ext {Ψ : List PyData → Prop} (h : At K W ms B ρ σ H) (o : Own K W ms B l ds H) (hr : ρ[i]? = some (.raw (.ref l))) (e : EvF K W te ρ Ψ) (hz : ∀ es, Ψ es → ds.length + es.length ≤ 100000)
    (k : ∀ es H', Ψ es → At K W ms B ρ σ H' → Own K W ms B l (ds ++ es) H' → D.nx σ H') : tDrop (tBM K "list" rExtend (tVar i) (tCons te tNil)) D σ H := by
  obtain ⟨w, ew, ow⟩ := h.env.get hr (by intro q; cases q)
  obtain rfl : w = .ref l := ow
  obtain ⟨vs, el, dd⟩ := o.val
  refine ⟨_, ew, .inl ⟨rfl, _, .inl (.inl el)⟩, e ms B σ H h _ fun es p zs H1 ψ h1 x1 hp e1 o1 => ?_⟩
  have el1 := x1 l _ o.nws el
  have d1 := dpa_mono (x1.cut h.sub) _ _ dd
  have d2 := dpa_mono (cut_cons (l := p)) _ _ o1
  refine ⟨l, p, vs, zs, rfl, rfl, el1, e1, by rw [dpa_len dd, dpa_len o1]; exact le_line (hz es ψ), ?_⟩
  exact k es _ ψ (h1.write o.mem o.nws o.h0) ⟨o.mem, o.nws, o.h0, vs ++ zs, upd_same, dpa_mono (cut_put (.inl o.mem)) _ _ (dpa_app d1 d2)⟩
theorem s_while {α : Type} {R : α → List Sl} {X : α → Hp → Prop} {μ : α → Nat} {ψ : α → Bool → Prop} (p0 : α) (h : At K W ms B ρ σ H) (l0 : Le (R p0) ρ) (x0 : X p0 H)
    (tst : ∀ Hb p σ' H', At K W ms ⟨B.h0, Hb⟩ (R p) σ' H' → X p H' → ∀ Q : Bool → Hp → Prop, (∀ b H2, ψ p b → At K W ms ⟨B.h0, Hb⟩ (R p) σ' H2 → X p H2 → Q b H2) → tt σ' H' Q)
    (hs : ∀ Hb p σ' H', ψ p true → At K W ms ⟨B.h0, Hb⟩ (R p) σ' H' → X p H' → ts { D with nx := fun σ H => ∃ p', μ p' < μ p ∧ At K W ms ⟨B.h0, Hb⟩ (R p') σ H ∧ X p' H, ct := fun σ H => ∃ p', μ p' < μ p ∧ At K W ms ⟨B.h0, Hb⟩ (R p') σ H ∧ X p' H, bk := D.nx } σ' H')
    (hd : ∀ p σ' H', ψ p false → At K W ms B (R p) σ' H' → X p H' → D.nx σ' H') : tWhile tt ts D σ H := by
  refine ⟨fun m σ' H' => ∃ p, m = μ p ∧ At K W ms ⟨B.h0, H⟩ (R p) σ' H' ∧ X p H', ⟨_, p0, rfl, h.re.le l0, x0⟩, ?_⟩
  rintro m σ1 H1 ⟨p, rfl, a, x⟩
  refine tst H p σ1 H1 a x _ fun b H2 y a2 x2 => ?_
  cases b with
  | true => exact iteT ⟨fun σ H' => ∃ p', μ p' < μ p ∧ At K W ms ⟨B.h0, _⟩ (R p') σ H' ∧ X p' H', fun σ' H' ⟨p', hl, a', x'⟩ => ⟨_, hl, p', rfl, a', x'⟩, hs _ p σ1 H2 y a2 x2⟩
  | false => exact iteF (hd p σ1 H2 y (h.un a2) x2)
theorem Own.other (o : Own K W ms B l1 ds H) {u : HO} (h : l2 ∈ ms) (n : l1 ≠ l2) : Own K W ms B l1 ds (upd H l2 u) := by
  obtain ⟨vs, e, dd⟩ := o.val
  exact ⟨o.mem, o.nws, o.h0, vs, by rw [upd_ne n]; exact e, dpa_mono (cut_put (.inl h)) _ _ dd⟩
theorem dpa_erase : ∀ {ds : List PyData} {vs : List V} (n : Nat), DpAll K H vs ds → DpAll K H (vs.eraseIdx n) (ds.eraseIdx n)
  | [], _, n, h => by cases h; exact .nil
  | d :: ds, _, 0, h => by cases h with | cons _ t => exact t
  | d :: ds, _, n + 1, h => by cases h with | cons a t => exact .cons a (dpa_erase n t)
/-- f.append(l.pop(e)), two lists of one's own -/
theorem s_popApp (h : At K W ms B ρ σ H) (o1 : Own K W ms B l1 ds1 H) (o2 : Own K W ms B l2 ds2 H) (ne : l1 ≠ l2) (hr1 : ρ[i]? = some (.raw (.ref l1))) (hr2 : ρ[j]? = some (.raw (.ref l2)))
    (arg : ∀ Q : V → Hp → Prop, (∀ (n : Nat) H', n < ds2.length → At K W ms B ρ σ H' → Own K W ms B l1 ds1 H' → Own K W ms B l2 ds2 H' → Q (.int (n : Int)) H') → te σ H Q) (hz : ds1.length < 100000) (hz2 : ds2.length < 100000)
    (k : ∀ d n H', ds2[n]? = some d → At K W ms B ρ σ H' → Own K W ms B l1 (ds1 ++ [d]) H' → Own K W ms B l2 (ds2.eraseIdx n) H' → D.nx σ H') : tDrop (tBM K "list" rAppend (tVar i) (tCons (tBM K "list" rPopAt (tVar j) (tCons te tNil)) tNil)) D σ H := by
  obtain ⟨w1, ew1, ow1⟩ := h.env.get hr1 (by intro q; cases q)
  obtain rfl : w1 = .ref l1 := ow1
  obtain ⟨w2, ew2, ow2⟩ := h.env.get hr2 (by intro q; cases q)
  obtain rfl : w2 = .ref l2 := ow2
  obtain ⟨vs1, el1, _⟩ := o1.val
  obtain ⟨vs2, el2, _⟩ := o2.val
  refine ⟨_, ew1, .inl ⟨rfl, _, .inl (.inl el1)⟩, _, ew2, .inl ⟨rfl, _, .inl (.inl el2)⟩, arg _ fun n H1 hn a1 p1 p2 => ?_⟩
  obtain ⟨xs1, e1, d1⟩ := p1.val
  obtain ⟨xs2, e2, d2⟩ := p2.val
  have hl : n < xs2.length := by rw [dpa_len d2]; exact hn
  have hx : xs2[n]? = some xs2[n] := List.getElem?_eq_getElem hl
  obtain ⟨d, hd, od⟩ := dpa_get d2 hx
  refine ⟨l2, xs2, n, n, xs2[n], rfl, rfl, e2, Int.le_trans (b := 0) (by decide) (Int.natCast_nonneg n), Int.lt_trans (b := 100000) (by omega) (by decide), ?_, hx, ?_⟩
  · unfold seqIndex?
    have h0 : ¬ ((n : Int) < 0) := by omega
    simp [h0, hl]
  · have b1 := a1.write (o := .lst (xs2.eraseIdx n)) p2.mem p2.nws p2.h0
    have q1 := p1.other (u := .lst (xs2.eraseIdx n)) p2.mem ne
    have q2 : Own K W ms B l2 (ds2.eraseIdx n) (upd H1 l2 (.lst (xs2.eraseIdx n))) := ⟨p2.mem, p2.nws, p2.h0, _, upd_same, dpa_mono (cut_put (.inl p2.mem)) _ _ (dpa_erase n d2)⟩
    refine ⟨l1, xs1, xs2[n], rfl, rfl, by rw [upd_ne ne]; exact e1, Nat.lt_of_lt_of_le (by rw [dpa_len d1]; exact hz) (show 100000 ≤ sizeLine by decide), ?_⟩
    refine k d n _ hd (b1.write p1.mem p1.nws p1.h0) ⟨p1.mem, p1.nws, p1.h0, xs1 ++ [xs2[n]], upd_same, ?_⟩ (q2.other p1.mem (Ne.symm ne))
    exact dpa_mono ((cut_put (.inl p2.mem)).trans (cut_put (.inl p1.mem))) _ _ (dpa_snoc d1 od)
end
end Fw

/-! The frame, 14: new lists by one of two ways; sorted ints. -/
namespace Fw
open PySem L2
open PyProof.Rows (envOfC)
def insI (x : Int) : List Int → List Int
  | [] => [x]
  | y :: r => if x ≤ y then x :: y :: r else y :: insI x r
def sortI : List Int → List Int
  | [] => []
  | x :: r => insI x (sortI r)
theorem insI_perm (x : Int) : ∀ l : List Int, (insI x l).Perm (x :: l)
  | [] => .refl _
  | y :: r => by
    unfold insI
    split
    · exact .refl _
    · exact ((insI_perm x r).cons y).trans (.swap x y r)
theorem sortI_perm : ∀ l : List Int, (sortI l).Perm l
  | [] => .refl _
  | x :: r => (insI_perm x _).trans ((sortI_perm r).cons x)
theorem insI_sorted (x : Int) : ∀ {l : List Int}, l.Pairwise (· ≤ ·) → (insI x l).Pairwise (· ≤ ·)
  | [], _ => List.pairwise_singleton _ _
  | y :: r, h => by
    obtain ⟨h1, h2⟩ := List.pairwise_cons.mp h
    unfold insI
    split
    · refine List.pairwise_cons.mpr ⟨fun z hz => ?_, h⟩
      rcases List.mem_cons.mp hz with e | e
      · omega
      · have := h1 z e
        omega
    · refine List.pairwise_cons.mpr ⟨fun z hz => ?_, insI_sorted x h2⟩
      rcases List.mem_cons.mp ((insI_perm x r).mem_iff.mp hz) with e | e
      · omega
      · exact h1 z e
theorem sortI_sorted : ∀ l : List Int, (sortI l).Pairwise (· ≤ ·)
  | [] => .nil
  | x :: r => insI_sorted x (sortI_sorted r)
theorem sorted_one : ∀ {a b : List Int}, a.Perm b → a.Pairwise (· ≤ ·) → b.Pairwise (· ≤ ·) → a = b
  | [], b, h, _, _ => (List.nil_perm.mp h).symm
  | x :: a, [], h, _, _ => absurd h (by simp)
  | x :: a, y :: b, h, ha, hb => by
    obtain ⟨a1, a2⟩ := List.pairwise_cons.mp ha
    obtain ⟨b1, b2⟩ := List.pairwise_cons.mp hb
    have e : x = y := by
      have mx := h.mem_iff.mp (List.mem_cons_self (a := x) (l := a))
      have my := h.mem_iff.mpr (List.mem_cons_self (a := y) (l := b))
      have l1 : y ≤ x := by
        rcases List.mem_cons.mp mx with e | e
        · omega
        · exact b1 x e
      have l2 : x ≤ y := by
        rcases List.mem_cons.mp my with e | e
        · omega
        · exact a1 y e
      omega
    subst e
    rw [sorted_one (List.perm_cons _ |>.mp h) a2 b2]
section
variable {K : PySem.W.Frag} {W : Wd} {ρ : List Sl} {ta tb te : TE} {tt : TT} {Φ : List PyData → Prop}
theorem ef_if {b : Bool} (h : EvT K W tt ρ b) (h1 : b = true → EvF K W ta ρ Φ) (h2 : b = false → EvF K W tb ρ Φ) : EvF K W (tIf tt ta tb) ρ Φ := fun ms B σ H g Q q => h ms B σ H g _ fun H1 g1 x1 => by
  have back : ∀ {p : Addr}, H1 p = none → H p = none := fun {p} hp => by
    have hw := (g1.fresh hp).2.2
    cases z : H p with
    | none => rfl
    | some o => rw [x1 p o hw z] at hp; cases hp
  cases b with
  | true => exact iteT (h1 rfl ms B σ H1 g1 Q fun es p vs H2 φ g2 x2 hp e o => q es p vs H2 φ g2 (x1.trans x2) (back hp) e o)
  | false => exact iteF (h2 rfl ms B σ H1 g1 Q fun es p vs H2 φ g2 x2 hp e o => q es p vs H2 φ g2 (x1.trans x2) (back hp) e o)
theorem ef_sortedI {ns : List Int} (h : Evd K W te ρ (.list (ns.map .int))) : EvF K W (tCB (rSortedI K) (tCons te tNil)) ρ (· = (sortI ns).map .int) := fun ms B σ H a Q q => h ms B σ H a _ fun v H1 h1 x1 o1 => by
  cases o1 with
  | lst sx dx =>
    obtain rfl := dpa_ints dx
    refine ⟨_, ns, rfl, sql_mono cut_le sx, fun ns' p hp hs hn => ?_⟩
    have e : ns' = sortI ns := sorted_one (hp.trans (sortI_perm ns).symm) hs (sortI_sorted ns)
    subst e
    have hp0 : H p = none := by
      have hw := (h1.fresh hn).2.2
      cases z : H p with
      | none => rfl
      | some o => rw [x1 p o hw z] at hn; cases hn
    exact q _ p _ _ rfl (h1.same (same_put hn)) (x1.trans (.of_same (same_put hn))) hp0 upd_same (dpa_of_ints _ _ _)
end
end Fw

/-! A dict comprehension of two clauses without tests: {k: v for t in i for t1 in i1}. -/
namespace Dc2
open PySem PySem.Spec PyProof.Rows L2
/-- its tree -/
abbrev dc (kx vx t0 i0 t1 i1 : Expr) (scope : Scope) (pos : Pos) : Expr := .DictComp kx vx [⟨t0, i0, [], 0⟩, ⟨t1, i1, [], 0⟩] scope pos
theorem turn0 (kx vx t0 i0 t1 i1 : Expr) (scope : Scope) (pos : Pos) (it acc : Value) (env : Env) : compTurn (dc kx vx t0 i0 t1 i1 scope pos) 0 it acc env = (do
      standAt i0.pos
      match ← pyNext it with
      | none => pure (.done .next)
      | some v =>
        letOwnedTupleGo t0 it v
        assign t0 env v
        let x ← eval i1 env
        standAt i1.pos
        let x ← foldedSetIterable i1 env x
        let _ ← runOwn (.compStart (dc kx vx t0 i0 t1 i1 scope pos) 1 (← holding [x] (pyIter x)) acc env) env
        again (.compLoop (dc kx vx t0 i0 t1 i1 scope pos) 0 it acc env)) := by rfl
theorem turn1 (kx vx t0 i0 t1 i1 : Expr) (scope : Scope) (pos : Pos) (it : Value) (D : Addr) (env : Env) : compTurn (dc kx vx t0 i0 t1 i1 scope pos) 1 it (.ref D) env = (do
      standAt i1.pos
      match ← pyNext it with
      | none => pure (.done .next)
      | some v =>
        letOwnedTupleGo t1 it v
        assign t1 env v
        (do
            let kv ← eval kx env
            let vv ← holding [kv] (eval vx env)
            standAt { kx.pos with endLine := vx.pos.endLine, endCol := vx.pos.endCol }
            holding [kv, vv] (dictSet D kv vv))
        again (.compLoop (dc kx vx t0 i0 t1 i1 scope pos) 1 it (.ref D) env)) := by rfl
section
variable {prog : Program} {w : World} {A : Around} {R : Result → Shared → Prop} {s : Shared} {kx vx t0 i0 t1 i1 : Expr} {scope : Scope} {pos : Pos} {it acc : Value} {D : Addr} {env : Env}
/-- where an error goes -/
abbrev away (prog : Program) (w : World) (A : Around) (env : Env) (R : Result → Shared → Prop) : Value → Shared → Prop := notedBy (model prog w) A env fun x z => R (.error x) z
theorem run0 (hf : ∀ x, foldedSetIterable i1 env x = pure x) (I : Nat → Shared → Prop)
    (step : ∀ n z, I n z → wpAny (model prog w) A (pyNext it) (fun r z1 => match r with
      | none => R (.ok .next) z1
      | some v => wpAny (model prog w) A (letOwnedTupleGo t0 it v) (fun _ z2 => wpAny (model prog w) A (assign t0 env v) (fun _ z3 => wpAny (model prog w) A (eval i1 env) (fun x z4 => wpAny (model prog w) A (pyIter x) (fun j z5 =>
          codeAny (model prog w) A (.compStart (dc kx vx t0 i0 t1 i1 scope pos) 1 j acc env) (fun r z6 => match r with | .ok _ => ∃ m, m < n ∧ I m z6 | .error _ => False) z5)
          (away prog w A env R) z4) (away prog w A env R) z3) (away prog w A env R) z2) (away prog w A env R) z1) (away prog w A env R) z)
    (n : Nat) (h : I n s) : codeAny (model prog w) A (.compLoop (dc kx vx t0 i0 t1 i1 scope pos) 0 it acc env) R s := by
  refine codeAny_loop rfl I (fun m z hz => ?_) n h
  show wpAny _ A ((compTurn (dc kx vx t0 i0 t1 i1 scope pos) 0 it acc env).onRaise (fun x => do noteFrame x env; theTreesLotGoes x)) _ _ z
  refine wpAny_noted ?_
  rw [turn0]
  refine wpAny_bind (wpAny_standAt (wpAny_bind (wpAny_mono (step m z hz) (fun r z1 a1 => ?_) fun _ _ b => b)))
  cases r with
  | none => exact wpAny_pure a1
  | some v =>
    refine wpAny_bind (wpAny_mono a1 (fun _ z2 a2 => wpAny_bind (wpAny_mono a2 (fun _ z3 a3 => wpAny_bind (wpAny_mono a3 (fun x z4 a4 => ?_) fun _ _ b => b)) fun _ _ b => b)) fun _ _ b => b)
    refine wpAny_bind (wpAny_standAt (wpAny_bind (wpAny_of_eq (hf x) (wpAny_bind (wpAny_holding (wpAny_mono a4 (fun j z5 a5 => ?_) fun _ _ b => b))))))
    refine wpAny_bind (wpAny_runOwn ?_)
    rw [Around.mark_none]
    refine codeAny_mono a5 fun r z6 a6 => ?_
    cases r with
    | ok f =>
      first
        | exact wpAny_pure ⟨rfl, a6⟩
        | exact wpAny_bind (wpAny_pure (wpAny_pure ⟨rfl, a6⟩))
    | error x => exact a6.elim
theorem run1 (I : Nat → Shared → Prop)
    (step : ∀ n z, I n z → wpAny (model prog w) A (pyNext it) (fun r z1 => match r with
      | none => R (.ok .next) z1
      | some v => wpAny (model prog w) A (letOwnedTupleGo t1 it v) (fun _ z2 => wpAny (model prog w) A (assign t1 env v) (fun _ z3 => wpAny (model prog w) A (eval kx env) (fun a z4 => wpAny (model prog w) A (eval vx env) (fun b z5 =>
          wpAny (model prog w) A (dictSet D a b) (fun _ z6 => ∃ m, m < n ∧ I m z6) (away prog w A env R) z5) (away prog w A env R) z4) (away prog w A env R) z3) (away prog w A env R) z2) (away prog w A env R) z1) (away prog w A env R) z)
    (n : Nat) (h : I n s) : codeAny (model prog w) A (.compLoop (dc kx vx t0 i0 t1 i1 scope pos) 1 it (.ref D) env) R s := by
  refine codeAny_loop rfl I (fun m z hz => ?_) n h
  show wpAny _ A ((compTurn (dc kx vx t0 i0 t1 i1 scope pos) 1 it (.ref D) env).onRaise (fun x => do noteFrame x env; theTreesLotGoes x)) _ _ z
  refine wpAny_noted ?_
  rw [turn1]
  refine wpAny_bind (wpAny_standAt (wpAny_bind (wpAny_mono (step m z hz) (fun r z1 a1 => ?_) fun _ _ b => b)))
  cases r with
  | none => exact wpAny_pure a1
  | some v =>
    refine wpAny_bind (wpAny_mono a1 (fun _ z2 a2 => wpAny_bind (wpAny_mono a2 (fun _ z3 a3 => ?_) fun _ _ b => b)) fun _ _ b => b)
    exact wpAny_bind (wpAny_bind (wpAny_mono a3 (fun a z4 a4 => wpAny_bind (wpAny_holding (wpAny_mono a4 (fun b z5 a5 => wpAny_bind (wpAny_standAt (wpAny_holding (wpAny_mono a5 (fun _ z6 a6 => wpAny_pure ⟨rfl, a6⟩) fun _ _ c => c)))) fun _ _ c => c))) fun _ _ c => c))
/-- the second clause begins -/
theorem begin1 (h0 : codeAny (model prog w) A (.compLoop (dc kx vx t0 i0 t1 i1 scope pos) 1 it acc env) R s)
    (h : wpAny (model prog w) A (pyIter it) (fun j z => codeAny (model prog w) A (.compLoop (dc kx vx t0 i0 t1 i1 scope pos) 1 j acc env) R z) (away prog w A env R) s) :
    codeAny (model prog w) A (.compStart (dc kx vx t0 i0 t1 i1 scope pos) 1 it acc env) R s := by
  refine codeAny_of_tree ?_
  show wpAny _ _ ((compStart (dc kx vx t0 i0 t1 i1 scope pos) 1 it acc env).onRaise (fun x => do noteFrame x env; standAt theWindowsPlace)) _ _ s
  refine wpAny_notedAt ?_
  unfold compStart
  show wpAny _ _ (ask >>= _) _ _ s
  refine wpAny_bind (wpAny_askSetting (wpAny_ite ?_))
  split
  · first
      | exact wpAny_bind (wpAny_pure (wpAny_pure (And.intro rfl h0)))
      | exact wpAny_pure (And.intro rfl h0)
  · refine wpAny_bind (wpAny_rule ?_)
    show wpAny _ _ (standAt i1.pos >>= _) _ _ s
    exact wpAny_bind (wpAny_standAt (wpAny_bind (wpAny_mono h (fun j z a => wpAny_pure (And.intro rfl a)) fun _ _ b => b)))
end
section
variable {X : Cx}
/-- {k: v for t0 in i0 for t1 in i1}: D the new dict; vs all names of the block, vs1 those of the second target -/
def tDc2 (wi : TI) (g : TG) (wi1 : TI) (g1 : TG) (tk tv : TE) (vs vs1 : List Nat) : TE := fun σ H Q => wi σ H fun J H1 => ∀ D, H1 D = none → ∃ W : Nat → Nat → Hp → Prop, (∃ m, W 0 m (upd H1 D (.dK []))) ∧ ∀ i m H, W i m H →
  (J.stop i H ∧ Q (.ref D) H) ∨ (J.go i H ∧ ∃ Nx : Hp → Prop, (∀ H', Nx H' → ∃ m', m' < m ∧ W (i + 1) m' H') ∧ ∀ x H', J.yld i H x H' → g x (wipe σ vs) H' fun σ2 H2 => wipe σ2 vs = wipe σ vs ∧
    wi1 σ2 H2 fun J1 H4 => ∃ W1 : Nat → Nat → Hp → Prop, (∃ m, W1 0 m H4) ∧ ∀ j k H, W1 j k H →
      (J1.stop j H ∧ Nx H) ∨ (J1.go j H ∧ ∃ Nx1 : Hp → Prop, (∀ H', Nx1 H' → ∃ k', k' < k ∧ W1 (j + 1) k' H') ∧ ∀ x H', J1.yld j H x H' → g1 x (wipe σ2 vs1) H' fun σ3 H5 => wipe σ3 vs1 = wipe σ2 vs1 ∧
        tk σ3 H5 fun y H6 => tv σ3 H6 fun z H7 => ∃ kvs q, y = kV q ∧ H7 D = some (.dK kvs) ∧ kvs.length < sizeLine ∧ Nx1 (upd H7 D (.dK (putK kvs q z)))))
theorem pe_dc2 {kx vx t0 i0 t1 i1 : Expr} {scope : Scope} {own : List (Str × Nat)} {vs1 : List Nat} {pos : Pos} {wi wi1 : TI} {g g1 : TG} {tk tv : TE} (hc : X.calm = true) (hN : X.N.Nodup) (hi : PI X t0 i0 wi) (ok : BlkOk X.N X.env.scope scope own) (hv : ∀ i ∈ vs1, i ∈ own.map (·.2))
    (hg : ∀ (s : Shared) (H : Hp) (C : Addr) (cl : List (Str × Addr)) (fp : List Addr), PG (X.blk s H scope (compEnvC scope cl C X.env) fp) t0 g)
    (hi1 : ∀ (s : Shared) (H : Hp) (C : Addr) (cl : List (Str × Addr)) (fp : List Addr), PI (X.blk s H scope (compEnvC scope cl C X.env) fp) t1 i1 wi1)
    (hg1 : ∀ (s : Shared) (H : Hp) (C : Addr) (cl : List (Str × Addr)) (fp : List Addr), PG (X.blk s H scope (compEnvC scope cl C X.env) fp) t1 g1)
    (hk : ∀ (s : Shared) (H : Hp) (C : Addr) (cl : List (Str × Addr)) (fp : List Addr), PE (X.blk s H scope (compEnvC scope cl C X.env) fp) kx tk)
    (hw : ∀ (s : Shared) (H : Hp) (C : Addr) (cl : List (Str × Addr)) (fp : List Addr), PE (X.blk s H scope (compEnvC scope cl C X.env) fp) vx tv)
    (hs : ∀ x, foldedSetIterable i0 X.env x = pure x := by intro _; rfl) (hs1 : ∀ env x, foldedSetIterable i1 env x = pure x := by intro _ _; rfl) : PE X (dc kx vx t0 i0 t1 i1 scope pos) (tDc2 wi g wi1 g1 tk tv (own.map (·.2)) vs1) := by
  refine ⟨fun pins s σ H Q I h => ?_⟩
  rw [arm_eval_DictComp]
  have free : ∀ y ∈ scope.names, y.2 = .free → ∃ c, X.env.cells.lookup y.1 = some c := fun y hy e => (ok.free y hy e).elim (fun k => I.ok.has _ (.inl k)) fun k => I.ok.has _ (.inr k)
  refine wpAny_comprehension_free (use := none) rfl hs (closure_ok free) ok.kind (fun y hy e => by rw [ok.uniq y hy, e]) (thn (hi.run pins s σ H _ I h) fun xv sa hx => thn hx fun itv sb got => ?_)
  obtain ⟨it, fp, tn, J, H2, rfl, I2, T, b2, f2, q⟩ := got
  refine wpAny_newObj_type (newEnv_comp ?_)
  generalize eD : sb.heap.objs.size = D
  have nD : H2 D = none := I2.hok.fresh (Nat.le_of_eq eD)
  obtain ⟨W, ⟨m0, w0⟩, turn⟩ := q D nD
  generalize ec : ({ sb with heap := sb.heap.push { cls := .type "dict", data := .dict #[] } } : Shared) = sc
  have hp : sc.heap = sb.heap.push { cls := .type "dict", data := .dict #[] } := by rw [← ec]
  have I3 : Inv X pins σ (upd H2 D (.dK [])) sc := by
    rw [← ec]
    refine I2.laid (t' := sb.toks) (fun b o e => Heap.get?_push_of_some _ e) (Nat.le_of_eq eD) ?_
    rw [← eD]
    exact dk_empty sb.heap I2.big
  have foot : ∀ b ∈ fp, FpOk X pins (upd H2 D (.dK [])) b ∧ b < sc.heap.objs.size := fun b hb => by
    obtain ⟨o, e, _⟩ := T.obj _ _ b2 b hb
    have lt := Heap.lt_size e
    refine ⟨⟨?_, (f2 b hb).2⟩, by rw [hp, Heap.size_push]; exact Nat.lt_succ_of_lt lt⟩
    rw [upd_ne (by rw [← eD]; exact Nat.ne_of_lt lt)]
    exact (f2 b hb).1
  have b3 : tn 0 sc.heap := T.keep _ _ _ b2 fun b _ o e => by rw [hp]; exact Heap.get?_push_of_some _ e
  have I4 := block_start I3 ok hN foot
  have pg := hg sc (upd H2 D (.dK [])) sc.heap.objs.size (cellsFrom (sc.heap.objs.size + 1) scope.names (cloFrom X.env.cells scope.names [])) fp
  have pi1 := hi1 sc (upd H2 D (.dK [])) sc.heap.objs.size (cellsFrom (sc.heap.objs.size + 1) scope.names (cloFrom X.env.cells scope.names [])) fp
  have pg1 := hg1 sc (upd H2 D (.dK [])) sc.heap.objs.size (cellsFrom (sc.heap.objs.size + 1) scope.names (cloFrom X.env.cells scope.names [])) fp
  have pk := hk sc (upd H2 D (.dK [])) sc.heap.objs.size (cellsFrom (sc.heap.objs.size + 1) scope.names (cloFrom X.env.cells scope.names [])) fp
  have pv := hw sc (upd H2 D (.dK [])) sc.heap.objs.size (cellsFrom (sc.heap.objs.size + 1) scope.names (cloFrom X.env.cells scope.names [])) fp
  show codeAny _ _ (.compStart (dc kx vx t0 i0 t1 i1 scope pos) 0 (.ref it) (.ref D) (compEnvC scope (cellsFrom (sc.heap.objs.size + 1) scope.names (cloFrom X.env.cells scope.names [])) sc.heap.objs.size X.env)) (compPost (model X.prog X.w) X.A X.xe none (EP X pins σ Q) (.ref D) sc.heap.objs.size) { sc with heap := pushCells (sc.heap.push { cls := .type "dict", data := .dict #[] }) scope.names }
  have none0 : ∀ b ∈ fp, (upd H2 D (.dK [])) b = none := fun b hb => (foot b hb).1.1
  generalize hce : compEnvC scope (cellsFrom (sc.heap.objs.size + 1) scope.names (cloFrom X.env.cells scope.names [])) sc.heap.objs.size X.env = ce at I4 pg pi1 pg1 pk pv ⊢
  have place : ce.locals = sc.heap.objs.size := by subst hce; rfl
  generalize hH3 : upd H2 D (.dK []) = H3 at I3 I4 pg pi1 pg1 pk pv w0 none0 foot
  generalize ed : ({ sc with heap := pushCells (sc.heap.push { cls := .type "dict", data := .dict #[] }) scope.names } : Shared) = sd at I4 ⊢
  have b4 : tn 0 sd.heap := T.keep _ _ _ b3 fun b _ o e => by rw [← ed]; exact pushCells_keeps _ _ _ _ (Heap.get?_push_of_some _ e)
  -- what a turn of the outer loop hands on
  let Out : Nat → Shared → Prop := fun n z => ∃ i H', Inv (X.blk sc H3 scope ce fp) [] (wipe σ (own.map (·.2))) H' z ∧ tn i z.heap ∧ (∀ b ∈ fp, H' b = none) ∧ W i n H'
  have calm : ∀ {τ : L2.St} {H' : Hp} {z : Shared}, Inv (X.blk sc H3 scope ce fp) [] τ H' z → (∀ b ∈ fp, H' b = none) → ∀ b ∈ fp, FpOk (X.blk sc H3 scope ce fp) [] H' b := fun {τ H' z} J n b hb =>
    ⟨n b hb, (J.ok.exf b hb).1, J.ok.exfs b hb, .inl hb, fun x c e => (J.ok.exf b hb).2 x c e, fun p m => absurd (show p ∈ ([] : List (Addr × Obj)) ++ [] from m) (by simp)⟩
  have loop : codeAny (model X.prog X.w) X.A (.compLoop (dc kx vx t0 i0 t1 i1 scope pos) 0 (.ref it) (.ref D) ce) (compPost (model X.prog X.w) X.A X.xe none (EP X pins σ Q) (.ref D) sc.heap.objs.size) sd := by
    refine run0 (hs1 ce) Out ?_ m0 ⟨0, H3, I4, b4, none0, w0⟩
    rintro n z5 ⟨i, H5, I5, b5, n5, w5⟩
    rcases turn i n H5 w5 with ⟨stop, qq⟩ | ⟨go, Nx, hNx, step⟩
    · refine thnF (T.done (X.blk sc H3 scope ce fp) rfl rfl rfl hc i [] z5 _ H5 (fun _ _ => False) I5 (calm I5 n5) b5 stop) fun r z6 ⟨er, I6⟩ => ?_
      subst er
      have I7 : Inv X pins σ H5 z6 := I3.call' (ch := fp) I6.os I6.base I6.hok I6.bare fun b hb => ⟨(foot b hb).1.2.2.2.1, (foot b hb).1.2.1, (foot b hb).1.2.2.2.2.1, (foot b hb).1.2.2.2.2.2⟩
      have nC : H5 sc.heap.objs.size = none := by rw [← place]; exact I6.free
      obtain ⟨m, hn, _⟩ := I6.loc
      have hn : z6.heap.Ns ce.locals m := hn
      rw [place] at hn
      obtain ⟨f0, f1, f2, f3, f4, f5⟩ := I3.fpOk (Nat.le_refl _) nC
      exact ⟨m, hn, fun h' sv => ⟨.ref D, H5, I7.turned (t' := z6.toks) (fun b o hb e => (sv.2 b hb).trans e) f0 f1 f3 f4 f5, rfl, qq⟩⟩
    · refine thnF (T.item (X.blk sc H3 scope ce fp) rfl rfl rfl hc i [] z5 _ H5 (fun _ _ => False) I5 (calm I5 n5) b5 go) fun r z6 ⟨u, er, h6⟩ => ?_
      subst er
      refine thnF h6 fun _ z7 ⟨x, H7, I7, r7, y7, b7, n7⟩ => ?_
      refine thnF (pg.run _ z7 _ H7 x u _ (I7.pinned (calm I7 n7) (T.obj _ _ b7)) r7 (step x H7 y7)) fun _ z8 ⟨σ8, H8, I8, hw8, q8⟩ => ?_
      have keep : ∀ (j : Nat) v, (wipe σ (own.map (·.2)))[j]? = some (some v) → (wipe σ8 vs1)[j]? = some (some v) := fun j v e => by
        rw [← hw8] at e
        obtain ⟨e1, e2⟩ := wipe_some e
        rw [wipe_out fun m => e2 (hv j m)]
        exact e1
      refine thnF (pi1.run _ z8 σ8 H8 _ I8 q8) fun xv z9 hx => thnF hx fun itv z10 got => ?_
      obtain ⟨it1, fp1, tn1, J1, H10, rfl, I10, T1, b10, f10, W1, ⟨m1, w1⟩, turn1⟩ := got
      have calm1 : ∀ {H' : Hp}, (∀ b ∈ fp1, H' b = none) → ∀ b ∈ fp1, FpOk (X.blk sc H3 scope ce fp) ([] ++ pinsAt fp z7.heap) H' b := fun n b hb => ⟨n b hb, (f10 b hb).2⟩
      have inner : codeAny (model X.prog X.w) X.A (.compLoop (dc kx vx t0 i0 t1 i1 scope pos) 1 (.ref it1) (.ref D) ce) (fun r z => match r with | .ok _ => ∃ m, m < n ∧ Out m z | .error _ => False) z10 := by
        refine run1 (fun k z => ∃ j H', Inv (X.blk sc H3 scope ce fp) ([] ++ pinsAt fp z7.heap) (wipe σ8 vs1) H' z ∧ tn1 j z.heap ∧ (∀ b ∈ fp1, H' b = none) ∧ W1 j k H') ?_ m1 ⟨0, H10, I10.weak (wipe_length _ _) (fun j v e => (wipe_some e).1), b10, fun b hb => (f10 b hb).1, w1⟩
        rintro k z11 ⟨j, H11, I11, b11, n11, w11⟩
        rcases turn1 j k H11 w11 with ⟨stop1, nx⟩ | ⟨go1, Nx1, hNx1, step1⟩
        · refine thnF (T1.done (X.blk sc H3 scope ce fp) rfl rfl rfl hc j _ z11 (wipe σ8 vs1) H11 (fun _ _ => False) I11 (calm1 n11) b11 stop1) fun r z12 ⟨er, I12⟩ => ?_
          subst er
          obtain ⟨m2, lt, w2⟩ := hNx H11 nx
          have stays : ∀ b ∈ fp, ∀ o, z7.heap.get? b = some o → z12.heap.get? b = some o ∧ H11 b = none := fun b hb o e =>
            let v := I12.pin (b, o) (List.mem_append_right _ (List.mem_append_right _ (mem_pinsAt hb e)))
            ⟨v.1, v.2.1⟩
          refine ⟨m2, lt, i + 1, H11, (I12.unpinned (pins := [])).weak (by rw [← hw8, wipe_length, wipe_length]) keep, T.keep _ _ _ b7 fun b hb o e => (stays b hb o e).1, fun b hb => ?_, w2⟩
          obtain ⟨o, e, _⟩ := T.obj _ _ b7 b hb
          exact (stays b hb o e).2
        · refine thnF (T1.item (X.blk sc H3 scope ce fp) rfl rfl rfl hc j _ z11 (wipe σ8 vs1) H11 (fun _ _ => False) I11 (calm1 n11) b11 go1) fun r z12 ⟨u1, er, h12⟩ => ?_
          subst er
          refine thnF h12 fun _ z13 ⟨x1, H13, I13, r13, y13, b13, n13⟩ => ?_
          refine thnF (pg1.run _ z13 (wipe σ8 vs1) H13 x1 u1 _ (I13.pinned (calm1 n13) (T1.obj _ _ b13)) r13 (step1 x1 H13 y13)) fun _ z14 ⟨σ14, H14, I14, hw14, q14⟩ => ?_
          refine thnF (pk.run _ z14 σ14 H14 _ I14 q14) fun a z15 ⟨ya, H15, I15, r15, q15⟩ => ?_
          refine thnF (pv.run _ z15 σ14 H15 _ I15 q15) fun b z16 ⟨yb, H16, I16, r16, kvs, key, ek, hD, hz, nx⟩ => ?_
          subst ek
          refine d_dictSet (X := X.blk sc H3 scope ce fp) I16 hD hz r15 r16 fun z17 I17 => ?_
          obtain ⟨m2, lt, w2⟩ := hNx1 _ nx
          have stays : ∀ b ∈ fp1, ∀ o, z13.heap.get? b = some o → z17.heap.get? b = some o ∧ (upd H16 D (.dK (putK kvs key yb))) b = none := fun b hb o e =>
            let v := I17.pin (b, o) (List.mem_append_right _ (List.mem_append_right _ (mem_pinsAt hb e)))
            ⟨v.1, v.2.1⟩
          refine ⟨m2, lt, j + 1, _, I17.unpinned.weak (by rw [← hw14, wipe_length]) (fun j v e => by rw [← hw14] at e; exact (wipe_some e).1), T1.keep _ _ _ b13 fun b hb o e => (stays b hb o e).1, fun b hb => ?_, w2⟩
          obtain ⟨o, e, _⟩ := T1.obj _ _ b13 b hb
          exact (stays b hb o e).2
      exact begin1 inner (T1.self X.A 0 _ _ _ b10 inner)
  exact codeAny_compStart_dict loop (T.self X.A 0 _ _ _ b4 loop)
end
end Dc2

/-! sorted(d) of a dict with int keys, any number of them. -/
namespace Dc2
open PySem PySem.Spec PyProof.Rows L2
section
variable {X : Cx}
def rSortedDK : List V → Hp → VK → Prop := fun xs H Q => ∃ (a : Addr) (kvs : List (Key × V)) (ks : List Int), xs = [.ref a] ∧ Rd H a (.dK kvs) ∧ kvs.map (·.1) = ks.map Sum.inl ∧
  ∀ (ys : List Int) (p : Addr), ys.Perm ks → ys.Pairwise (· ≤ ·) → H p = none → Q (.ref p) (upd H p (.lst (ys.map V.int)))
theorem cr_sortedDK (calm : X.calm = true) : CallR X (.builtin "sorted") rSortedDK := by
  intro pins s σ H xs us Q I r ⟨a, kvs, ks, ex, hd, hk, q⟩
  subst ex
  obtain ⟨u, eu, ru⟩ := vals1 r
  subst eu
  cases ru
  obtain ⟨z, lo, vs, rel, dd⟩ := dk_rd I.hok hd
  obtain ⟨ep, at_⟩ := dd.dictAt
  have keys : vs.map (·.1) = ks.map Sum.inl := rel.keys.symm.trans hk
  have ln : vs.length = ks.length := by simpa using congrArg List.length keys
  have lz : vs.length ≤ sizeLine := by rw [← rel.length]; exact z
  refine Calls.call_function_entry (PyProof.Rows.kind_sorted) PyProof.Rows.plain_sorted PyProof.Rows.entry_sorted (PyProof.Rows.args_sorted1 _) ?_
  unfold Builtin.«sorted»
  refine wpAny_bind (m := checkCount "sorted" 1 1 _) (wpAny_pure ?_)
  refine wpAny_bind (PySem.W.kdu_collect (A := X.A.in1) (PySem.W.kdl_dict (knd := mixKind X.prog X.w) (kvs := vs) (ep := ep) lo) (I.ok.hd calm) at_ lz fun h1 tk acc keep got => ?_)
  have la : acc.toList.length = ks.length := by rw [Array.length_toList, got.1, ln]
  have hI : IntsAre acc.toList ks := ints_each la fun j v e => by
    obtain ⟨k, x, e1, e2⟩ := got.2 j v (by rw [← Array.getElem?_toList]; exact e)
    have e3 : (vs.map (·.1))[j]? = some k := by rw [List.getElem?_map, e1]; rfl
    rw [keys, List.getElem?_map] at e3
    cases e4 : ks[j]? with
    | none => rw [e4] at e3; cases e3
    | some y =>
      rw [e4] at e3
      obtain rfl : Sum.inl y = k := Option.some.inj e3
      rcases keyIs_shape (show keyIs (Sum.inl y) v = true from e2) with ⟨i, t, ek, ev⟩ | ⟨zz, t, ek, ev⟩
      · cases ek
        exact ⟨y, t, rfl, ev⟩
      · cases ek
  have I1 : Inv X pins σ H { s with heap := h1, toks := tk } := I.kept keep
  have lz2 : acc.toList.length ≤ sizeLine := by rw [la, ← ln]; exact lz
  refine wpAny_bind (wpAny_newList ?_ lz2)
  have there : (h1.push (seqObj "list" acc.toList.toArray 0)).get? h1.objs.size = some (seqObj "list" acc.toList.toArray 0) := Heap.get?_push_size _ rfl
  show wpAny _ _ _ _ _ { s with heap := h1.push (seqObj "list" acc.toList.toArray 0), toks := tk }
  refine wpAny_bind (wpAny_holding (wpAny_call_entry PyProof.Rows.slot_list_sort ⟨_, there, rfl⟩ PyProof.Rows.entry_list_sort
    (SrtO.list_sort_ord (s := { s with heap := h1.push (seqObj "list" acc.toList.toArray 0), toks := tk }) SrtO.swo_int there lz2 (fun two => SrtO.ints_sortable hI two) fun out hs hb => ⟨_, rfl, ?_⟩) (PyProof.Rows.args_list_sort _)))
  obtain ⟨k1, k2, k3⟩ := SrtO.ints_out hI hs hb
  obtain ⟨e', he'⟩ := PyProof.Rows.sortedHeap_at (vs := acc.toList) (out := out.toArray) there
  have lo2 : ((out.map SrtO.iv).map V.int).length ≤ sizeLine := by
    rw [List.length_map, k2.length_eq, ← ln]
    exact lz
  refine wpAny_pure ⟨_, rfl, .ref h1.objs.size, upd H h1.objs.size (.lst ((out.map SrtO.iv).map V.int)), I1.laid (t' := tk) (fun b u e => ?_) (Nat.le_refl _) (show ObjOk X.prog X.w _ _ _ (.lst ((out.map SrtO.iv).map V.int)) from ⟨lo2, out, e', vals_of_ints k1, he'⟩), rfl, q _ _ k2 k3 (I1.hok.fresh (Nat.le_refl _))⟩
  have hb : b < h1.objs.size := Heap.lt_size e
  rw [PyProof.Rows.sortedHeap_old (Nat.ne_of_lt hb) (by rw [size_push']; exact Nat.lt_succ_of_lt hb)]
  exact Heap.get?_push_of_some _ e
end
end Dc2

/-! The frame, 15: dicts made by two walks; sorted of their keys. -/
namespace Fw
open PySem L2
open PyProof.Rows (envOfC)
/-- a loop by an invariant, whatever a turn is -/
theorem loop_by {J : It} {n : Nat} {G : Hp → Prop} {Y : Nat → Hp → V → Hp → Prop} (w : Walk J n G Y) {H0 : Hp} {Qd : Hp → Prop} {T : (Hp → Prop) → V → Hp → Prop} (Pv : Nat → Hp → Prop) (h0 : Pv 0 H0) (hG : ∀ i H, i ≤ n → Pv i H → G H)
    (hs : ∀ i x H H', i < n → Pv i H → Y i H x H' → T (Pv (i + 1)) x H') (hd : ∀ H, Pv n H → Qd H) :
    ∃ W : Nat → Nat → Hp → Prop, (∃ m, W 0 m H0) ∧ ∀ i m H, W i m H → (J.stop i H ∧ Qd H) ∨ (J.go i H ∧ ∃ Nx : Hp → Prop, (∀ H', Nx H' → ∃ m', m' < m ∧ W (i + 1) m' H') ∧ ∀ x H', J.yld i H x H' → T Nx x H') := by
  refine ⟨fun i m H => m = n - i ∧ i ≤ n ∧ Pv i H, ⟨n, by simp, Nat.zero_le _, h0⟩, ?_⟩
  rintro i m H ⟨rfl, hi, p⟩
  have q := hG i H hi p
  by_cases lt : i < n
  · exact .inr ⟨w.goes i H lt q, Pv (i + 1), fun H' p' => ⟨n - (i + 1), by omega, rfl, lt, p'⟩, fun x H' y => hs i x H H' lt p (w.yields i H x H' lt q y)⟩
  · obtain rfl : i = n := by omega
    exact .inl ⟨w.stops H q, hd H p⟩
/-- each once, in the order in which they came -/
def ddup (l : List Int) : List Int := l.foldl (fun a x => if x ∈ a then a else a ++ [x]) []
theorem ddup_snoc (l : List Int) (x : Int) : ddup (l ++ [x]) = if x ∈ ddup l then ddup l else ddup l ++ [x] := by
  unfold ddup
  rw [List.foldl_append]
  rfl
theorem ddup_mem (l : List Int) : ∀ y, y ∈ ddup l ↔ y ∈ l := by
  have h : ∀ (l acc : List Int) y, y ∈ l.foldl (fun a x => if x ∈ a then a else a ++ [x]) acc ↔ y ∈ acc ∨ y ∈ l := fun l => by
    induction l with
    | nil => intro acc y; simp
    | cons x l ih =>
      intro acc y
      rw [List.foldl_cons, ih]
      split
      · rename_i hx
        rw [List.mem_cons]
        refine ⟨fun q => q.elim .inl fun q => .inr (.inr q), fun q => q.elim .inl fun q => q.elim (fun e => .inl (by rw [e]; exact hx)) .inr⟩
      · rw [List.mem_append, List.mem_singleton, List.mem_cons, or_assoc]
  intro y
  rw [ddup, h]
  simp
theorem put_keys {kvs : List (Key × V)} {ks : List Int} {x : Int} {v : V} (h : kvs.map (·.1) = ks.map Sum.inl) : (putK kvs (.inl x) v).map (·.1) = (if x ∈ ks then ks else ks ++ [x]).map Sum.inl := by
  have e : (kvs.any fun kv => decide (kv.1 = (.inl x : Key))) = decide (x ∈ ks) := by
    have e1 : (kvs.any fun kv => decide (kv.1 = (.inl x : Key))) = (kvs.map (·.1)).any fun k => decide (k = (.inl x : Key)) := by rw [List.any_map]; rfl
    rw [e1, h, List.any_map, Bool.eq_iff_iff, decide_eq_true_eq, List.any_eq_true]
    refine ⟨fun ⟨y, hy, q⟩ => ?_, fun hx => ⟨x, hx, by simp⟩⟩
    have q2 : y = x := by simpa using q
    rw [← q2]
    exact hy
  unfold putK
  rw [e]
  by_cases c : x ∈ ks
  · rw [if_pos (decide_eq_true c), if_pos c, List.map_map, ← h]
    refine List.map_congr_left fun kv _ => ?_
    show (if kv.1 = Sum.inl x then (kv.1, v) else kv).1 = kv.1
    split <;> rfl
  · rw [if_neg (by rw [decide_eq_false c]; decide), if_neg c, List.map_append, List.map_append, h]
    rfl
section
variable {K : PySem.W.Frag} {ms : List Addr} {B : Bs} {H H' : Hp} {ρ : List Sl} {σ : L2.St} {tl1 tl2 tk tv te : TE} {i j : Nat}
theorem ddup_len : ∀ l : List Int, (ddup l).length ≤ l.length := fun l => by
  have h : ∀ (l acc : List Int), (l.foldl (fun a x => if x ∈ a then a else a ++ [x]) acc).length ≤ acc.length + l.length := fun l => by
    induction l with
    | nil => intro acc; simp
    | cons x l ih =>
      intro acc
      rw [List.foldl_cons]
      rw [List.length_cons]
      by_cases c : x ∈ acc
      · rw [if_pos c]
        have := ih acc
        omega
      · rw [if_neg c]
        have := ih (acc ++ [x])
        rw [List.length_append, List.length_singleton] at this
        omega
  have := h l []
  simpa [ddup] using this
/-- {k: v for x in l1 for y in l2}, ints: the keys -/
theorem ed_dc2 {xs ys : List Int} {f : Int → Int → Int} {dv : Int → Int → PyData} (h : At K W0 ms B ρ σ H) (hz : xs.length * ys.length ≤ 1000000)
    (e1 : Evd K W0 tl1 ρ (.list (xs.map .int))) (e2 : ∀ x ∈ xs, Evd K W0 tl2 ((wipeR ρ [i, j]).set i (.dat (.int x))) (.list (ys.map .int)))
    (ek : ∀ x ∈ xs, ∀ y ∈ ys, Evd K W0 tk ((wipeR ((wipeR ρ [i, j]).set i (.dat (.int x))) [j]).set j (.dat (.int y))) (.int (f x y)))
    (ev : ∀ x ∈ xs, ∀ y ∈ ys, Evd K W0 tv ((wipeR ((wipeR ρ [i, j]).set i (.dat (.int x))) [j]).set j (.dat (.int y))) (dv x y)) {Q : VK}
    (q : ∀ p kvs H', At K W0 ms B ρ σ H' → XW [] H H' → H p = none → H' p = some (.dK kvs) → kvs.map (·.1) = (ddup (xs.flatMap fun x => ys.map (f x))).map Sum.inl → Q (.ref p) H') :
    Dc2.tDc2 (iList K tl1) (gName i) (iList K tl2) (gName j) tk tv [i, j] [j] σ H Q := by
  refine src_list e1 ms B σ H h _ fun J H1 h1 x1 stm => ?_
  obtain ⟨G, Y, wk, st⟩ := stm
  intro D nD
  have bx : ∀ {x : Int} {l : List Int} {k : Nat}, l[k]? = some x → x ∈ l := fun h => List.mem_of_getElem? h
  have a0 := (h1.base.own (o := .dK []) nD)
  have n0 : H D = none := by
    cases z : H D with
    | none => rfl
    | some o => rw [x1 D o (by intro z; cases z) z] at nD; cases nD
  have fl : ∀ k x, xs[k]? = some x → (xs.take (k + 1)).flatMap (fun x => ys.map (f x)) = (xs.take k).flatMap (fun x => ys.map (f x)) ++ ys.map (f x) := fun k x e => by rw [take_more e, List.flatMap_append]; simp
  have small : ∀ k x l, xs[k]? = some x → ((xs.take k).flatMap (fun x => ys.map (f x)) ++ (ys.take l).map (f x)).length < sizeLine := fun k x l e => by
    have hk := (List.getElem?_eq_some_iff.mp e).1
    have h2 : ∀ zs : List Int, (zs.flatMap (fun x => ys.map (f x))).length = zs.length * ys.length := fun zs => by
      induction zs with
      | nil => simp
      | cons z zs ih => rw [List.flatMap_cons, List.length_append, ih, List.length_map, List.length_cons, Nat.succ_mul]; omega
    rw [List.length_append, h2, List.length_map, List.length_take, List.length_take]
    have h3 : min k xs.length * ys.length ≤ xs.length * ys.length := Nat.mul_le_mul_right _ (Nat.min_le_right _ _)
    have h4 : ys.length ≤ xs.length * ys.length := Nat.le_mul_of_pos_left _ (by omega)
    exact Nat.lt_of_le_of_lt (show _ ≤ 2000000 by omega) (show 2000000 < sizeLine by decide)
  have xsl : (xs.map PyData.int).length = xs.length := List.length_map _
  refine loop_by wk (fun k H' => At K W0 (D :: ms) ⟨H1, H1⟩ (wipeR ρ [i, j]) (L2.wipe σ [i, j]) H' ∧ ∃ kvs, H' D = some (.dK kvs) ∧ kvs.map (·.1) = (ddup ((xs.take k).flatMap fun x => ys.map (f x))).map Sum.inl)
    ⟨a0.wipe _, [], upd_same, rfl⟩ (fun k H' _ ⟨a, _⟩ => (st (D :: ms) H' ((cut_new nD).trans a.st)).1) (fun k v H' H'' lt ⟨a, kvs, hD, hk⟩ y => ?_) fun H' ⟨a, kvs, hD, hk⟩ => ?_
  · obtain ⟨sm, hd⟩ := (st (D :: ms) H' ((cut_new nD).trans a.st)).2 k v H'' a.live y
    rw [xsl] at lt
    have ex : xs[k]? = some xs[k] := List.getElem?_eq_getElem lt
    generalize xs[k] = x at ex
    have dv1 := hd (.int x) (by rw [List.getElem?_map, ex]; rfl)
    have a1 := a.same sm
    have hD1 := sm _ _ hD
    have a2 := (a1.re.set (s := .dat (.int x)) dv1 i)
    refine ⟨?_, ?_⟩
    · exact wipe_diff (Diff.set _ i _) (by simp)
    refine src_list (e2 x (bx ex)) (D :: ms) ⟨H1, H''⟩ _ H'' a2 _ fun J1 H4 h4 x4 stm1 => ?_
    obtain ⟨G1, Y1, wk1, st1⟩ := stm1
    have hD4 := x4 D _ (by intro z; cases z) hD1
    refine loop_by wk1 (fun l H5 => At K W0 (D :: ms) ⟨H1, H''⟩ (wipeR ((wipeR ρ [i, j]).set i (.dat (.int x))) [j]) (L2.wipe ((L2.wipe σ [i, j]).set i (some v)) [j]) H5 ∧ Same (cut (D :: ms) H4) (cut (D :: ms) H5) ∧ ∃ kvs, H5 D = some (.dK kvs) ∧ kvs.map (·.1) = (ddup ((xs.take k).flatMap (fun x => ys.map (f x)) ++ (ys.take l).map (f x))).map Sum.inl)
      ⟨h4.wipe _, Same.refl _, kvs, hD4, by simpa using hk⟩ (fun l H5 _ ⟨b, s5, _⟩ => (st1 (D :: ms) H5 s5).1) (fun l v1 H5 H6 lt1 ⟨b, s5, kv5, hD5, hk5⟩ y1 => ?_) fun H5 ⟨b, s5, kv5, hD5, hk5⟩ => ?_
    · obtain ⟨sm1, hd1⟩ := (st1 (D :: ms) H5 s5).2 l v1 H6 b.live y1
      rw [List.length_map] at lt1
      have ey : ys[l]? = some ys[l] := List.getElem?_eq_getElem lt1
      generalize ys[l] = yv at ey
      have dv2 := hd1 (.int yv) (by rw [List.getElem?_map, ey]; rfl)
      have b1 := (b.same sm1).set (s := .dat (.int yv)) dv2 j
      refine ⟨wipe_diff (Diff.set _ j _) (by simp), ek x (bx ex) yv (bx ey) (D :: ms) _ _ H6 b1 _ fun kk H7 b7 x7 o7 => ev x (bx ex) yv (bx ey) (D :: ms) _ _ H7 b7 _ fun vv H8 b8 x8 o8 => ?_⟩
      cases o7
      have hD8 := x8 D _ (by intro z; cases z) (x7 D _ (by intro z; cases z) (sm1 _ _ hD5))
      have c0 := cut_put (p := D) (o := .dK (putK kv5 (.inl (f x yv)) vv)) (ms := D :: ms) (H := H8) (.inl List.mem_cons_self)
      refine ⟨kv5, .inl (f x yv), rfl, hD8, ?_, ?_⟩
      · have e := congrArg List.length hk5
        rw [List.length_map, List.length_map] at e
        rw [e]
        exact Nat.lt_of_le_of_lt (ddup_len _) (small k x l ex)
      · have sm2 := ((x7.trans x8).cut (ms := D :: ms) (fun a z => by cases z))
        have sm1' : Same (cut (D :: ms) H5) (cut (D :: ms) H6) := (XW.of_same (ws := []) sm1).cut (fun a z => by cases z)
        refine ⟨⟨b8.sub, b8.live.upd, (b.env.mono (sm1'.trans sm2)).mono c0, trivial, b8.xw.put (by exact nD), b8.st.trans c0, trivial⟩, ((s5.trans sm1').trans sm2).trans c0, _, upd_same, ?_⟩
        rw [put_keys hk5, take_more ey, List.map_append, ← List.append_assoc, List.map_singleton, ddup_snoc]
    · have l2 : (ys.map PyData.int).length = ys.length := List.length_map _
      rw [l2, List.take_length] at hk5
      refine ⟨⟨b.sub, b.live, a.env.mono (((XW.of_same (ws := []) sm).cut (ms := D :: ms) (fun a z => by cases z)).trans b.st), trivial, b.xw, (a.st.trans ((XW.of_same (ws := []) sm).cut (ms := D :: ms) (fun a z => by cases z))).trans b.st, trivial⟩, kv5, hD5, ?_⟩
      rw [fl k x ex]
      exact hk5
  · rw [xsl, List.take_length] at hk
    refine q D kvs H' ?_ (x1.trans a.xw) n0 hD hk
    have m1 : Same (cut ms H1) (cut ms H') := ((cut_new nD).trans a.st).trans cut_cons
    exact ⟨fun b z => (by cases z), fun b z => a.live b (List.mem_cons_of_mem _ z), h1.env.mono m1, trivial, h1.xw.trans a.xw, h1.st.trans m1, trivial⟩
end
end Fw

/-! The frame, 16: comprehensions over one of several lists. -/
namespace Fw
open PySem L2
open PyProof.Rows (envOfC)
section
variable {K : PySem.W.Frag} {W : Wd} {ms : List Addr} {B : Bs} {H H' : Hp} {ρ ρ' ρ1 : List Sl} {σ σ' : St} {d : PyData} {s : Sl} {tl te ta : TE} {tt : TT} {wi : TI} {g : TG}
theorem ef_lcN {α : Type} {Ψ : List PyData → Prop} {Ψ' : List α → Prop} {enc : α → PyData} {p : α → Bool} {Φ : α → PyData → Prop} {vs : List Nat} {S : α → List Sl} (sr : SrcN K W wi ρ Ψ) (dec : ∀ ds, Ψ ds → ∃ xs, ds = xs.map enc ∧ Ψ' xs) (hz : ∀ xs, Ψ' xs → xs.length ≤ 16000000)
    (tg : ∀ xs, Ψ' xs → ∀ x ∈ xs, ∃ js, Tg K W g js (enc x) (wipeR ρ vs) (S x) ∧ ∀ j ∈ js, j ∈ vs) (ht : ∀ xs, Ψ' xs → ∀ x ∈ xs, EvT K W tt (S x) (p x)) (he : ∀ xs, Ψ' xs → ∀ x ∈ xs, p x = true → En K W te (S x) fun s => ∃ d, s = .dat d ∧ Φ x d) :
    EvF K W (tLc wi g tt te vs) ρ fun es => ∃ xs, Ψ' xs ∧ Paired Φ (xs.filter p) es := fun ms B σ H_ a Q q => sr ms B σ H_ a _ fun ds J H1 ψ h1 x1 stm => by
  obtain ⟨xs, rfl, ψ'⟩ := dec ds ψ
  obtain ⟨G, Y, wk, st⟩ := stm
  intro Dl hD
  obtain ⟨_, hm, hw⟩ := h1.fresh hD
  have data : ∀ {i : Nat} {H : Hp}, LcI K W ms H1 (wipeR ρ vs) (wipe σ vs) Dl (fun i es => Paired Φ ((xs.take i).filter p) es) i H → Same (cut ms H1) (cut (Dl :: ms) H) := fun {i H} l => (cut_new hD).trans l.here.st
  refine lc_it wk (LcI K W ms H1 (wipeR ρ vs) (wipe σ vs) Dl fun i es => Paired Φ ((xs.take i).filter p) es) ?_ (fun i H _ l => (st _ H (data l)).1) (fun i x H H' hi l y => ?_) fun H l => ?_
  · exact ⟨(h1.base.own hD).wipe vs, [], [], upd_same, .nil, Nat.le_refl _, .nil⟩
  · obtain ⟨s, hd⟩ := (st _ H (data l)).2 i x H' l.here.live y
    have hi' : i < xs.length := by rw [List.length_map] at hi; exact hi
    have hx : xs[i]? = some xs[i] := List.getElem?_eq_getElem hi'
    have hmem : xs[i] ∈ xs := List.getElem_mem hi'
    have o := hd (enc xs[i]) (by rw [List.getElem?_map, hx]; rfl)
    have l' := l.same s
    obtain ⟨js, tj, sub⟩ := tg xs ψ' _ hmem
    refine tj _ _ _ _ x l'.here o _ fun σ2 h2 df => ⟨wipe_diff df sub, ?_⟩
    refine lc_turn l' hD hw (by have := hz xs ψ'; omega) h2 (ht xs ψ' _ hmem) (he xs ψ' _ hmem) (fun hb es d ψ φ => ?_) fun hb es ψ => ?_
    · rw [take_more hx, List.filter_append, List.filter_cons_of_pos hb]
      exact ψ.snoc φ
    · rw [take_more hx, List.filter_append, List.filter_cons_of_neg (by rw [hb]; decide)]
      show Paired Φ (_ ++ []) es
      rw [List.append_nil]
      exact ψ
  · obtain ⟨acc, es, e1, e2, e3, e4⟩ := l.acc
    rw [List.length_map, List.take_length] at e4
    refine q es Dl acc H ⟨xs, ψ', e4⟩ (h1.back l.here rfl fun a z => List.mem_cons_of_mem _ z) (x1.trans l.here.xw) ?_ e1 e2
    cases q : H_ Dl with
    | none => rfl
    | some o => rw [x1 Dl o hw q] at hD; cases hD
/-- list(range(a, b)), a drawn -/
theorem en_rg {tb : TE} {Ψ : Int → Prop} {b : Int} (h1 : En K W ta ρ (IsI Ψ)) (h2 : Evd K W tb ρ (.int b)) (ha : ∀ a, Ψ a → -1000000 ≤ a ∧ a ≤ 1000000) (hb : -1000000 ≤ b ∧ b ≤ 1000000) :
    En K W (tLstRg (tRg2 ta tb)) ρ (IsD fun d => ∃ ds, d = .list ds ∧ ∃ a, Ψ a ∧ ds = (List.range (b - a).toNat).map fun i => PyData.int (a + (i : Nat))) := fun ms B σ H g Q q =>
  h1 ms B σ H g _ fun s x H1 φ g1 x1 o1 => h2 ms B σ H1 g1 _ fun y H2 g2 x2 o2 => by
    obtain ⟨a, rfl, ψ⟩ := φ
    cases o1
    cases o2
    have h0 := ha a ψ
    refine ⟨a, b, rfl, rfl, ⟨by omega, by omega, by omega, by omega, by omega⟩, fun p hp => ?_⟩
    exact q (.dat (.list _)) _ _ ⟨_, rfl, _, rfl, a, ψ, rfl⟩ (g2.same (same_put hp)) ((x1.trans x2).trans (.of_same (same_put hp))) (Sl.new_lst g2.live hp (dpa_rg K _ a b))
end
end Fw

/-! The frame, 17: an int or None shown; lists taken apart; slices and sums of any tuples; tests of several ways. -/
namespace Fw
open PySem L2
open PyProof.Rows (envOfC)
def rReprO : List V → Hp → VK → Prop := fun xs H Q => (∃ i : Int, xs = [.int i] ∧ i.natAbs.log2 < 1920 ∧ Q (.str (toString i)) H) ∨ (xs = [.non] ∧ Q (.str "None") H)
theorem cr_reprO {X : Cx} : CallR X (.builtin "repr") rReprO := by
  intro pins s σ H xs us Q I r h
  rcases h with h | ⟨e, q⟩
  · exact SkE.call_repr_int pins s σ H xs us Q I r h
  · subst e
    obtain ⟨u, rfl, ru⟩ := vals1 r
    obtain rfl : u = Value.none := ru
    exact PySem.P.repr_of_none ⟨.str _, H, I.tok _, ⟨_, rfl⟩, q⟩
section
variable {X : Cx} {pos : Pos} {es : List Expr}
theorem klt {k n : Nat} {u : TGs} (hc : X.calm = true) (h : PGs X es u) (hn : (assignEach es X.env).length = n := by kernel_rfl) (hs : (assignEach es X.env).findIdx? (·.1) = none := by kernel_rfl) : PG X (.Tuple es k pos) (gLst X.K n u) := pg_lst hc h hn hs
end
section
variable {K : PySem.W.Frag} {W : Wd} {ms : List Addr} {B : Bs} {H H' : Hp} {ρ ρ' ρ1 : List Sl} {σ σ' : L2.St} {d e : PyData} {ds es : List PyData} {s s1 s2 : Sl} {v : V} {vs : List V} {l : Addr} {i : Nat}
  {ta tb tc te tx tl ti tv tm : TE} {tt t u : TT} {wi : TI} {g : TG} {gs : TGs} {D : Ends} {ts ts' tz : TS} {Φ Φ1 Φ2 : Sl → Prop}
def oS : PyData → Str
  | .int i => Str.ofString (toString i)
  | _ => "None"
def IntO (d : PyData) : Prop := d = .none ∨ ∃ i : Int, d = .int i ∧ i.natAbs < 2 ^ 200
theorem ev_reprO (h : Evd K W te ρ d) (hd : IntO d) : Evd K W (tCB rReprO (tCons te tNil)) ρ (.str (oS d)) := fun ms B σ H a Q q => h ms B σ H a _ fun v H1 h1 x1 o1 => by
  rcases hd with rfl | ⟨i, rfl, hi⟩
  · cases o1
    exact .inr ⟨rfl, q _ H1 h1 x1 (.str _)⟩
  · cases o1
    refine .inl ⟨i, rfl, ?_, q _ H1 h1 x1 (.str _)⟩
    by_cases z : i.natAbs = 0
    · rw [z]; decide
    · exact (Nat.log2_lt z).mpr (Nat.lt_of_lt_of_le hi (Nat.pow_le_pow_right (by decide) (by decide)))
/-- repr(a) != repr(b), of one thing, an int or None -/
theorem et_sameO (ha : Evd K W ta ρ d) (hb : Evd K W tb ρ d) (hd : IntO d) : EvT K W (tTest (tOp rNe (tCB rReprO (tCons ta tNil)) (tCB rReprO (tCons tb tNil)))) ρ false := et_eq (et_test (ev_neS (ev_reprO ha hd) (ev_reprO hb hd))) (by simp)
theorem tg_lst {n : Nat} {js : List Nat} (h : Tgs K W gs js ds ρ ρ') (hn : ds.length = n) : Tg K W (gLst K n gs) js (.list ds) ρ ρ' := fun ms B σ H v a o Q q => by
  cases o with
  | lst hs ha => exact ⟨_, _, rfl, sql_mono cut_le hs, by rw [dpa_len ha]; exact hn, h ms B σ H _ a ha Q q⟩
theorem s_tgtN {P : PyData → Prop} (h : At K W ms B ρ σ H) (e : En K W te ρ (IsD P)) (k : ∀ d, P d → ∃ js ρ', Tg K W g js d ρ ρ' ∧ ∀ σ' H', At K W ms B ρ' σ' H' → D.nx σ' H') : tAsg te g D σ H := e ms B σ H h _ fun s v H1 φ h1 x1 o1 => by
  obtain ⟨d, rfl, p⟩ := φ
  obtain ⟨js, ρ', tj, kk⟩ := k d p
  exact tj ms B σ H1 v h1 o1 _ fun σ' h' _ => kk σ' H1 h'
theorem q_tgtN {P : PyData → Prop} (h : At K W ms B ρ σ H) (e : En K W te ρ (IsD P)) (k : ∀ d, P d → ∃ js ρ', Tg K W g js d ρ ρ' ∧ ∀ σ' H', At K W ms B ρ' σ' H' → tz D σ' H') : tSeq (tAsg te g) tz D σ H := s_tgtN (D := { D with nx := tz D }) h e k
theorem q_whenN {Ψ : Bool → Prop} (h : At K W ms B ρ σ H) (e : EnT K W tt ρ Ψ) (k1 : Ψ true → ∀ H', At K W ms B ρ σ H' → ts { D with nx := tz D } σ H') (k2 : Ψ false → ∀ H', At K W ms B ρ σ H' → tz D σ H') : tSeq (tIfS tt ts tNext) tz D σ H := s_ifN (D := { D with nx := tz D }) h e k1 k2
theorem q_ifN {Ψ : Bool → Prop} (h : At K W ms B ρ σ H) (e : EnT K W tt ρ Ψ) (k1 : Ψ true → ∀ H', At K W ms B ρ σ H' → ts { D with nx := tz D } σ H') (k2 : Ψ false → ∀ H', At K W ms B ρ σ H' → ts' { D with nx := tz D } σ H') : tSeq (tIfS tt ts ts') tz D σ H := s_ifN (D := { D with nx := tz D }) h e k1 k2
theorem cut_nat (xs : List V) (j : Nat) : cutV xs none (some (j : Int)) = xs.take j := by
  unfold cutV
  rw [HT.sIx_none, HT.sIx_nat, List.drop_zero, Nat.sub_zero]
  by_cases h : j ≤ xs.length
  · rw [Nat.min_eq_left h]
  · rw [Nat.min_eq_right (by omega), List.take_length, List.take_of_length_le (by omega)]
theorem rs_till {j : Nat} (hx : Dp K (cut ms H) v (.list ds)) (lv : Live ms H) {Q : VK} (q : ∀ v H', Same H H' → Dp K (cut ms H') v (.list (ds.take j)) → Q v H') : rSlL K v none (some (j : Int)) H Q := by
  cases hx with
  | lst sx dx =>
    refine ⟨_, _, rfl, sql_mono cut_le sx, fun p hp => q _ _ (same_put hp) ?_⟩
    rw [cut_nat]
    exact Sl.new_lst lv hp (dpa_take j dx)
theorem en_till {Ψ : List PyData → Prop} {j : Nat} (ha : En K W ta ρ (IsD fun d => ∃ ds, d = .list ds ∧ Ψ ds)) (hb : Evd K W tb ρ (.int (j : Int))) : En K W (tSl (rSlL K) ta tNoPart (tPart tb)) ρ (IsD fun d => ∃ ds, d = .list (ds.take j) ∧ Ψ ds) := fun ms B σ H a Q q => ha ms B σ H a _ fun s v H1 φ h1 x1 o1 => hb ms B σ H1 h1 _ fun w H2 h2 x2 o2 => by
  obtain ⟨d, rfl, ds, rfl, ψ⟩ := φ
  cases o2
  exact ⟨_, rfl, rs_till (dp_mono (x2.cut h1.sub) _ _ o1) h2.live fun v H3 s3 o3 => q (.dat (.list (ds.take j))) v H3 ⟨_, rfl, ds, rfl, ψ⟩ (h2.same s3) ((x1.trans x2).trans (.of_same s3)) o3⟩
/-- t[:j] -/
theorem ev_tillT {j : Nat} (ha : Evd K W ta ρ (.tuple ds)) (hb : Evd K W tb ρ (.int (j : Int))) : Evd K W (tSl (rSlA K) ta tNoPart (tPart tb)) ρ (.tuple (ds.take j)) := fun ms B σ H a Q q => ha ms B σ H a _ fun v H1 h1 x1 o1 => hb ms B σ H1 h1 _ fun w H2 h2 x2 o2 => by
  cases o2
  have o3 := dp_mono (x2.cut h1.sub) _ _ o1
  refine ⟨_, rfl, ?_⟩
  have o4 := o3
  cases o3 with
  | tup sx dx =>
    have lx := dpa_len dx
    refine ⟨_, _, rfl, sqt_mono cut_le sx, fun hw => q _ H2 h2 (x1.trans x2) ?_, fun _ p hp => q _ _ (h2.same (same_put hp)) ((x1.trans x2).trans (.of_same (same_put hp))) ?_⟩
    · have h2 := hw.2
      rw [HT.sIx_nat] at h2
      have e : ds.take j = ds := List.take_of_length_le (by omega)
      show Dp K _ _ (.tuple (ds.take j))
      rw [e]
      exact o4
    · rw [cut_nat]
      exact Sl.new_tup h2.live hp (dpa_take j dx)
theorem cut_natF (xs : List V) (j : Nat) : cutV xs (some (j : Int)) none = xs.drop j := by
  unfold cutV
  rw [HT.sIx_none, HT.sIx_nat]
  by_cases h : j ≤ xs.length
  · rw [Nat.min_eq_left h, List.take_of_length_le (by rw [List.length_drop]; exact Nat.le_refl _)]
  · rw [Nat.min_eq_right (by omega), List.drop_length, List.drop_of_length_le (by omega)]
    simp
/-- t[j:] -/
theorem ev_fromT {j : Nat} (ha : Evd K W ta ρ (.tuple ds)) (hb : Evd K W tb ρ (.int (j : Int))) : Evd K W (tSl (rSlA K) ta (tPart tb) tNoPart) ρ (.tuple (ds.drop j)) := fun ms B σ H a Q q => ha ms B σ H a _ fun v H1 h1 x1 o1 => hb ms B σ H1 h1 _ fun w H2 h2 x2 o2 => by
  cases o2
  have o3 := dp_mono (x2.cut h1.sub) _ _ o1
  refine ⟨_, rfl, ?_⟩
  have o4 := o3
  cases o3 with
  | tup sx dx =>
    have lx := dpa_len dx
    refine ⟨_, _, rfl, sqt_mono cut_le sx, fun hw => q _ H2 h2 (x1.trans x2) ?_, fun _ p hp => q _ _ (h2.same (same_put hp)) ((x1.trans x2).trans (.of_same (same_put hp))) ?_⟩
    · have h2 := hw.1
      rw [HT.sIx_nat] at h2
      show Dp K _ _ (.tuple (ds.drop j))
      by_cases z : j = 0
      · subst z; exact o4
      · have e : ds = [] := List.length_eq_zero_iff.mp (by omega)
        subst e
        rw [List.drop_nil]
        exact o4
    · rw [cut_natF]
      exact Sl.new_tup h2.live hp (dpa_drop j dx)
theorem rs_catT (hz : ds.length + es.length ≤ 100000) : Rs K (rCatA K) (.dat (.tuple ds)) (.dat (.tuple es)) (.dat (.tuple (ds ++ es))) := fun ms H x y lv hx hy Q q => by
  have hx0 := hx
  have hy0 := hy
  cases hx with
  | tup sx dx => cases hy with
    | tup sy dy =>
      have lx := dpa_len dx
      have ly := dpa_len dy
      refine ⟨_, _, _, _, rfl, rfl, sqt_mono cut_le sx, sqt_mono cut_le sy, by rw [lx, ly]; exact le_line hz, fun e => q _ H (Same.refl H) ?_, fun _ e => q _ H (Same.refl H) ?_, fun _ _ p hp => q _ _ (same_put hp) (Sl.new_tup lv hp (dpa_app dx dy))⟩
      · rw [e] at lx
        obtain rfl : ds = [] := List.length_eq_zero_iff.mp lx.symm
        exact hy0
      · rw [e] at ly
        obtain rfl : es = [] := List.length_eq_zero_iff.mp ly.symm
        rw [List.append_nil]
        exact hx0
theorem ev_catT (ha : Evd K W ta ρ (.tuple ds)) (hb : Evd K W tb ρ (.tuple es)) (hz : ds.length + es.length ≤ 100000) : Evd K W (tOp (rCatA K) ta tb) ρ (.tuple (ds ++ es)) := ev_op ha hb (rs_catT hz)
end
end Fw

/-! The frame, 18: dicts of ints to pairs of ints; one's own list lent to an expression, its items set; starred items. -/
namespace Fw
open PySem L2
open PyProof.Rows (envOfC)
section
variable {X : Cx} {e : Expr} {es : List Expr} {te td : TE} {t : TA} {p : Pos}
theorem kpas (he : PE X e te) (hr : PA X es t) (hs : starEach (.Starred e p :: es) X.env = (true, eval e X.env) :: starEach es X.env := by kernel_rfl) : PA X (.Starred e p :: es) (StX.tStar X.K te t) := StX.pa_star he hr hs
theorem kitems {elts : List Expr} {kk : Nat} {tpos apos cpos : Pos} (he : PE X e td) (h1 : attributeBase e "items" X.env (eval e X.env) = eval e X.env := by kernel_rfl) (h2 : (apos.endLine == cpos.line) = true := by kernel_rfl) : PI X (.Tuple elts kk tpos) (.Call (.Attribute e "items" apos) [] [] cpos) (iItems td) := pi_items he h1 h2
end
/-! ### rows of (int, pair) as a dict keeps them -/
abbrev PRow := List (Int × (Int × Int))
def putP (es : PRow) (x : Int) (p : Int × Int) : PRow := if (es.any fun e => decide (e.1 = x)) = true then es.map (fun e => if e.1 = x then (e.1, p) else e) else es ++ [(x, p)]
def lookP (es : PRow) (x : Int) : Option (Int × Int) := (es.find? fun e => decide (e.1 = x)).map (·.2)
def dictL (xs ys : List Int) (f : Int → Int → Int) (g : Int → Int → Int × Int) : PRow := (xs.flatMap fun x => ys.map fun y => (f x y, g x y)).foldl (fun acc e => putP acc e.1 e.2) []
theorem putP_mem {es : PRow} {x : Int} {p : Int × Int} {e : Int × (Int × Int)} (h : e ∈ putP es x p) : e ∈ es ∨ e = (x, p) := by
  unfold putP at h
  split at h
  · obtain ⟨u, hu, rfl⟩ := List.mem_map.mp h
    by_cases c : u.1 = x
    · rw [if_pos c, c]; exact .inr rfl
    · rw [if_neg c]; exact .inl hu
  · rcases List.mem_append.mp h with q | q
    · exact .inl q
    · exact .inr (List.mem_singleton.mp q)
theorem putP_key {es : PRow} {x y : Int} {p : Int × Int} (h : y = x ∨ ∃ q, (y, q) ∈ es) : ∃ q, (y, q) ∈ putP es x p := by
  unfold putP
  by_cases c : (es.any fun e => decide (e.1 = x)) = true
  · rw [if_pos c]
    have key : ∃ q, (y, q) ∈ es := by
      rcases h with rfl | h
      · obtain ⟨e, he, q⟩ := List.any_eq_true.mp c
        have q2 : e.1 = y := of_decide_eq_true q
        exact ⟨e.2, by rw [← q2]; exact he⟩
      · exact h
    obtain ⟨q, hq⟩ := key
    by_cases z : y = x
    · exact ⟨p, List.mem_map.mpr ⟨(y, q), hq, by rw [if_pos z]⟩⟩
    · exact ⟨q, List.mem_map.mpr ⟨(y, q), hq, by rw [if_neg z]⟩⟩
  · rw [if_neg c]
    rcases h with rfl | ⟨q, hq⟩
    · exact ⟨p, List.mem_append_right _ (List.mem_singleton.mpr rfl)⟩
    · exact ⟨q, List.mem_append_left _ hq⟩
theorem dict_mem {f : Int → Int → Int} {g : Int → Int → Int × Int} {xs ys : List Int} {e : Int × (Int × Int)} (h : e ∈ dictL xs ys f g) : ∃ x ∈ xs, ∃ y ∈ ys, e = (f x y, g x y) := by
  have key : ∀ (l acc : PRow), e ∈ l.foldl (fun acc e => putP acc e.1 e.2) acc → e ∈ acc ∨ e ∈ l := fun l => by
    induction l with
    | nil => exact fun acc h => .inl h
    | cons u l ih =>
      intro acc h
      rw [List.foldl_cons] at h
      rcases ih _ h with q | q
      · rcases putP_mem q with q | q
        · exact .inl q
        · exact .inr (by rw [q]; exact List.mem_cons_self)
      · exact .inr (List.mem_cons_of_mem _ q)
  rcases key _ _ h with q | q
  · cases q
  · obtain ⟨x, hx, q⟩ := List.mem_flatMap.mp q
    obtain ⟨y, hy, rfl⟩ := List.mem_map.mp q
    exact ⟨x, hx, y, hy, rfl⟩
theorem dict_key {f : Int → Int → Int} {g : Int → Int → Int × Int} {xs ys : List Int} {x y : Int} (hx : x ∈ xs) (hy : y ∈ ys) : ∃ q, (f x y, q) ∈ dictL xs ys f g := by
  have key : ∀ (l acc : PRow) (z : Int), ((∃ q, (z, q) ∈ acc) ∨ ∃ q, (z, q) ∈ l) → ∃ q, (z, q) ∈ l.foldl (fun acc e => putP acc e.1 e.2) acc := fun l => by
    induction l with
    | nil => exact fun acc z h => h.elim id fun ⟨q, h⟩ => nomatch h
    | cons u l ih =>
      intro acc z h
      rw [List.foldl_cons]
      refine ih _ z ?_
      rcases h with h | ⟨q, h⟩
      · exact .inl (putP_key (.inr h))
      · rcases List.mem_cons.mp h with e | e
        · exact .inl (putP_key (.inl (by rw [← e])))
        · exact .inr ⟨q, e⟩
  exact key _ _ _ (.inr ⟨g x y, List.mem_flatMap.mpr ⟨x, hx, List.mem_map.mpr ⟨y, hy, rfl⟩⟩⟩)
theorem look_some {es : PRow} {x : Int} {p : Int × Int} (h : lookP es x = some p) : (x, p) ∈ es := by
  unfold lookP at h
  cases e : es.find? fun e => decide (e.1 = x) with
  | none => rw [e] at h; cases h
  | some u =>
    rw [e] at h
    have q : u.2 = p := Option.some.inj h
    have m := List.mem_of_find?_eq_some e
    have k : u.1 = x := of_decide_eq_true (List.find?_some (p := fun e : Int × (Int × Int) => decide (e.1 = x)) e)
    rw [← q, ← k]
    exact m
theorem look_none {es : PRow} {x : Int} (h : lookP es x = none) (p : Int × Int) : (x, p) ∉ es := fun m => by
  unfold lookP at h
  cases e : es.find? fun e => decide (e.1 = x) with
  | some u => rw [e] at h; cases h
  | none =>
    have := List.find?_eq_none.mp e _ m
    simp at this
section
variable {K : PySem.W.Frag} {W : Wd} {ms : List Addr} {B : Bs} {H H' : Hp} {ρ ρ' ρ0 ρ1 : List Sl} {σ σ' : L2.St} {d e : PyData} {ds es : List PyData} {s s1 s2 : Sl} {v : V} {vs : List V} {l l1 l2 : Addr} {i j : Nat}
  {ta tb tc te tx tl ti tv tm tl1 tl2 tk : TE} {tt t u : TT} {wi : TI} {g : TG} {gs : TGs} {D : Ends} {ts ts' tz : TS} {Φ Φ1 Φ2 : Sl → Prop}
def KvR (K : PySem.W.Frag) (Hc : Hp) (kvs : List (Key × V)) (es : PRow) : Prop := Paired (fun kv e => kv.1 = (Sum.inl e.1 : Key) ∧ Dp K Hc kv.2 (pairI e.2)) kvs es
theorem KvR.mono {kvs : List (Key × V)} {es : PRow} (h : KvR K H kvs es) (m : Same H H') : KvR K H' kvs es := Paired.mapP h fun _ _ q => ⟨q.1, dp_mono m _ _ q.2⟩
theorem KvR.len {kvs : List (Key × V)} {es : PRow} (h : KvR K H kvs es) : kvs.length = es.length := Paired.length h
theorem KvR.any {kvs : List (Key × V)} {es : PRow} (h : KvR K H kvs es) (x : Int) : (kvs.any fun kv => decide (kv.1 = (.inl x : Key))) = (es.any fun e => decide (e.1 = x)) := by
  induction h with
  | nil => rfl
  | cons a t ih =>
    rw [List.any_cons, List.any_cons, ih, a.1]
    congr 1
    rw [Bool.eq_iff_iff, decide_eq_true_eq, decide_eq_true_eq]
    exact ⟨fun z => by injection z, fun z => by rw [z]⟩
theorem KvR.put {kvs : List (Key × V)} {es : PRow} {x : Int} {p : Int × Int} (h : KvR K H kvs es) (o : Dp K H v (pairI p)) : KvR K H (putK kvs (.inl x) v) (putP es x p) := by
  unfold putK putP
  rw [h.any x]
  split
  · rename_i zz
    clear zz
    induction h with
    | nil => exact .nil
    | @cons a b _ _ q t ih =>
      rw [List.map_cons, List.map_cons]
      refine .cons ?_ ih
      by_cases c : b.1 = x
      · rw [if_pos (by rw [q.1, c]), if_pos c]
        exact ⟨q.1, o⟩
      · rw [if_neg (fun z => by rw [q.1] at z; injection z with z; exact c z), if_neg c]
        exact q
  · exact Paired.snoc h ⟨rfl, o⟩
theorem KvR.look {kvs : List (Key × V)} {es : PRow} (h : KvR K H kvs es) (x : Int) : (∃ v p, valV kvs (.inl x : Key) = some v ∧ lookP es x = some p ∧ Dp K H v (pairI p)) ∨ (valV kvs (.inl x : Key) = none ∧ lookP es x = none) := by
  induction h with
  | nil => exact .inr ⟨rfl, rfl⟩
  | @cons a b _ _ q t ih =>
    by_cases c : b.1 = x
    · refine .inl ⟨a.2, b.2, valV_pos (by rw [q.1, c]), ?_, q.2⟩
      unfold lookP
      rw [List.find?_cons, decide_eq_true c]
      rfl
    · have e1 : ∀ r : List (Key × V), valV (a :: r) (.inl x : Key) = valV r (.inl x : Key) := fun r => valV_neg (p := a) (fun z => by rw [q.1] at z; injection z with z; exact c z)
      have e2 : ∀ r : PRow, lookP (b :: r) x = lookP r x := fun r => by
        unfold lookP
        rw [List.find?_cons, decide_eq_false c]
      rw [e1, e2]
      exact ih
theorem KvR.at {kvs : List (Key × V)} {es : PRow} (h : KvR K H kvs es) : ∀ {j : Nat} {e : Int × (Int × Int)}, es[j]? = some e → ∃ kv, kvs[j]? = some kv ∧ kv.1 = (Sum.inl e.1 : Key) ∧ Dp K H kv.2 (pairI e.2) := by
  induction h with
  | nil => intro j e z; cases z
  | @cons a b _ _ q t ih =>
    intro j e z
    cases j with
    | zero =>
      rw [List.getElem?_cons_zero] at z
      cases z
      exact ⟨a, rfl, q⟩
    | succ j =>
      rw [List.getElem?_cons_succ] at z
      rw [List.getElem?_cons_succ]
      exact ih z
/-- a dict of one's own -/
structure OwnK (K : PySem.W.Frag) (W : Wd) (ms : List Addr) (B : Bs) (l : Addr) (es : PRow) (H : Hp) : Prop where
  mem : l ∈ ms
  nws : l ∉ W.ws
  h0 : B.h0 l = none
  val : ∃ kvs, H l = some (.dK kvs) ∧ KvR K (cut ms H) kvs es
theorem OwnK.go {es : PRow} (o : OwnK K W ms B l es H) (sub : ∀ a ∈ W.ws, a ∈ ms) (x : XW W.ws H H') : OwnK K W ms B l es H' := by
  obtain ⟨kvs, e, d⟩ := o.val
  exact ⟨o.mem, o.nws, o.h0, kvs, x l _ o.nws e, d.mono (x.cut sub)⟩
theorem OwnK.same {es : PRow} (o : OwnK K W ms B l es H) (s : Same H H') : OwnK K W ms B l es H' := by
  obtain ⟨kvs, e, d⟩ := o.val
  exact ⟨o.mem, o.nws, o.h0, kvs, s _ _ e, d.mono (fun a u q => by
    by_cases z : a ∈ ms
    · rw [cut_in z] at q; cases q
    · rw [cut_out z] at q ⊢
      exact s _ _ q)⟩
theorem OwnK.re {es : PRow} (o : OwnK K W ms B l es H) (b : Hp) : OwnK K W ms ⟨B.h0, b⟩ l es H := ⟨o.mem, o.nws, o.h0, o.val⟩
theorem OwnK.un {b : Hp} {es : PRow} (o : OwnK K W ms ⟨B.h0, b⟩ l es H) : OwnK K W ms B l es H := ⟨o.mem, o.nws, o.h0, o.val⟩
theorem OwnK.other {es : PRow} (o : OwnK K W ms B l1 es H) {u : HO} (h : l2 ∈ ms) (n : l1 ≠ l2) : OwnK K W ms B l1 es (upd H l2 u) := by
  obtain ⟨kvs, e, dd⟩ := o.val
  exact ⟨o.mem, o.nws, o.h0, kvs, by rw [upd_ne n]; exact e, dd.mono (cut_put (.inl h))⟩
/-- .. to a new dict -/
def EvK (K : PySem.W.Frag) (W : Wd) (te : TE) (ρ : List Sl) (es : PRow) : Prop :=
  ∀ (ms : List Addr) (B : Bs) (σ : L2.St) (H : Hp), At K W ms B ρ σ H → ∀ Q : VK, (∀ p kvs H', At K W ms B ρ σ H' → XW W.ws H H' → H p = none → H' p = some (.dK kvs) → KvR K (cut (p :: ms) H') kvs es → Q (.ref p) H') → te σ H Q
/-- {k: pair for x in l1 for y in l2} -/
theorem ek_dc2 {xs ys : List Int} {f : Int → Int → Int} {dv : Int → Int → Int × Int} (hz : xs.length * ys.length ≤ 1000000)
    (e1 : Evd K W0 tl1 ρ (.list (xs.map .int))) (e2 : ∀ x ∈ xs, Evd K W0 tl2 ((wipeR ρ [i, j]).set i (.dat (.int x))) (.list (ys.map .int)))
    (ek : ∀ x ∈ xs, ∀ y ∈ ys, Evd K W0 tk ((wipeR ((wipeR ρ [i, j]).set i (.dat (.int x))) [j]).set j (.dat (.int y))) (.int (f x y)))
    (ev : ∀ x ∈ xs, ∀ y ∈ ys, Evd K W0 tv ((wipeR ((wipeR ρ [i, j]).set i (.dat (.int x))) [j]).set j (.dat (.int y))) (pairI (dv x y))) :
    EvK K W0 (Dc2.tDc2 (iList K tl1) (gName i) (iList K tl2) (gName j) tk tv [i, j] [j]) ρ (dictL xs ys f dv) := by
  intro ms B σ H h Q q
  refine src_list e1 ms B σ H h _ fun J H1 h1 x1 stm => ?_
  obtain ⟨G, Y, wk, st⟩ := stm
  intro D nD
  have bx : ∀ {x : Int} {l : List Int} {k : Nat}, l[k]? = some x → x ∈ l := fun h => List.mem_of_getElem? h
  have a0 := (h1.base.own (o := .dK []) nD)
  have n0 : H D = none := by
    cases z : H D with
    | none => rfl
    | some o => rw [x1 D o (by intro z; cases z) z] at nD; cases nD
  let row : List Int → Int → PRow := fun ys x => ys.map fun y => (f x y, dv x y)
  let fold : PRow → PRow := fun l => l.foldl (fun acc e => putP acc e.1 e.2) []
  have fold_len : ∀ l : PRow, (fold l).length ≤ l.length := fun l => by
    have : ∀ (l acc : PRow), (l.foldl (fun acc e => putP acc e.1 e.2) acc).length ≤ acc.length + l.length := fun l => by
      induction l with
      | nil => intro acc; simp
      | cons u l ih =>
        intro acc
        rw [List.foldl_cons, List.length_cons]
        have := ih (putP acc u.1 u.2)
        have h2 : (putP acc u.1 u.2).length ≤ acc.length + 1 := by
          unfold putP
          split
          · rw [List.length_map]; omega
          · rw [List.length_append]; simp
        omega
    have := this l []
    simpa [fold] using this
  have fl : ∀ k x, xs[k]? = some x → (xs.take (k + 1)).flatMap (row ys) = (xs.take k).flatMap (row ys) ++ row ys x := fun k x e => by rw [take_more e, List.flatMap_append]; simp
  have small : ∀ k x l, xs[k]? = some x → ((xs.take k).flatMap (row ys) ++ row (ys.take l) x).length < sizeLine := fun k x l e => by
    have hk := (List.getElem?_eq_some_iff.mp e).1
    have h2 : ∀ zs : List Int, (zs.flatMap (row ys)).length = zs.length * ys.length := fun zs => by
      induction zs with
      | nil => simp
      | cons z zs ih =>
        rw [List.flatMap_cons, List.length_append, ih, List.length_cons, Nat.succ_mul]
        show (ys.map _).length + _ = _
        rw [List.length_map]
        omega
    rw [List.length_append, h2]
    show _ + ((ys.take l).map _).length < _
    rw [List.length_map, List.length_take, List.length_take]
    have h3 : min k xs.length * ys.length ≤ xs.length * ys.length := Nat.mul_le_mul_right _ (Nat.min_le_right _ _)
    have h4 : ys.length ≤ xs.length * ys.length := Nat.le_mul_of_pos_left _ (by omega)
    exact Nat.lt_of_le_of_lt (show _ ≤ 2000000 by omega) (show 2000000 < sizeLine by decide)
  have xsl : (xs.map PyData.int).length = xs.length := List.length_map _
  refine loop_by wk (fun k H' => At K W0 (D :: ms) ⟨H1, H1⟩ (wipeR ρ [i, j]) (L2.wipe σ [i, j]) H' ∧ ∃ kvs, H' D = some (.dK kvs) ∧ KvR K (cut (D :: ms) H') kvs (fold ((xs.take k).flatMap (row ys))))
    ⟨a0.wipe _, [], upd_same, .nil⟩ (fun k H' _ ⟨a, _⟩ => (st (D :: ms) H' ((cut_new nD).trans a.st)).1) (fun k v H' H'' lt ⟨a, kvs, hD, hk⟩ y => ?_) fun H' ⟨a, kvs, hD, hk⟩ => ?_
  · obtain ⟨sm, hd⟩ := (st (D :: ms) H' ((cut_new nD).trans a.st)).2 k v H'' a.live y
    rw [xsl] at lt
    have ex : xs[k]? = some xs[k] := List.getElem?_eq_getElem lt
    generalize xs[k] = x at ex
    have dv1 := hd (.int x) (by rw [List.getElem?_map, ex]; rfl)
    have a1 := a.same sm
    have hD1 := sm _ _ hD
    have sm0 : Same (cut (D :: ms) H') (cut (D :: ms) H'') := (XW.of_same (ws := []) sm).cut (fun a z => by cases z)
    have a2 := (a1.re.set (s := .dat (.int x)) dv1 i)
    refine ⟨wipe_diff (Diff.set _ i _) (by simp), ?_⟩
    refine src_list (e2 x (bx ex)) (D :: ms) ⟨H1, H''⟩ _ H'' a2 _ fun J1 H4 h4 x4 stm1 => ?_
    obtain ⟨G1, Y1, wk1, st1⟩ := stm1
    have hD4 := x4 D _ (by intro z; cases z) hD1
    have sm4 : Same (cut (D :: ms) H'') (cut (D :: ms) H4) := x4.cut (fun a z => by cases z)
    refine loop_by wk1 (fun l H5 => At K W0 (D :: ms) ⟨H1, H''⟩ (wipeR ((wipeR ρ [i, j]).set i (.dat (.int x))) [j]) (L2.wipe ((L2.wipe σ [i, j]).set i (some v)) [j]) H5 ∧ Same (cut (D :: ms) H4) (cut (D :: ms) H5) ∧ ∃ kvs, H5 D = some (.dK kvs) ∧ KvR K (cut (D :: ms) H5) kvs (fold ((xs.take k).flatMap (row ys) ++ row (ys.take l) x)))
      ⟨h4.wipe _, Same.refl _, kvs, hD4, by simpa [row] using hk.mono (sm0.trans sm4)⟩ (fun l H5 _ ⟨b, s5, _⟩ => (st1 (D :: ms) H5 s5).1) (fun l v1 H5 H6 lt1 ⟨b, s5, kv5, hD5, hk5⟩ y1 => ?_) fun H5 ⟨b, s5, kv5, hD5, hk5⟩ => ?_
    · obtain ⟨sm1, hd1⟩ := (st1 (D :: ms) H5 s5).2 l v1 H6 b.live y1
      rw [List.length_map] at lt1
      have ey : ys[l]? = some ys[l] := List.getElem?_eq_getElem lt1
      generalize ys[l] = yv at ey
      have dv2 := hd1 (.int yv) (by rw [List.getElem?_map, ey]; rfl)
      have b1 := (b.same sm1).set (s := .dat (.int yv)) dv2 j
      refine ⟨wipe_diff (Diff.set _ j _) (by simp), ek x (bx ex) yv (bx ey) (D :: ms) _ _ H6 b1 _ fun kk H7 b7 x7 o7 => ev x (bx ex) yv (bx ey) (D :: ms) _ _ H7 b7 _ fun vv H8 b8 x8 o8 => ?_⟩
      cases o7
      have hD8 := x8 D _ (by intro z; cases z) (x7 D _ (by intro z; cases z) (sm1 _ _ hD5))
      have c0 := cut_put (p := D) (o := .dK (putK kv5 (.inl (f x yv)) vv)) (ms := D :: ms) (H := H8) (.inl List.mem_cons_self)
      have sm2 := ((x7.trans x8).cut (ms := D :: ms) (fun a z => by cases z))
      have sm1' : Same (cut (D :: ms) H5) (cut (D :: ms) H6) := (XW.of_same (ws := []) sm1).cut (fun a z => by cases z)
      have hk8 := hk5.mono (sm1'.trans sm2)
      refine ⟨kv5, .inl (f x yv), rfl, hD8, ?_, ?_⟩
      · rw [hk5.len]
        exact Nat.lt_of_le_of_lt (fold_len _) (small k x l ex)
      · refine ⟨⟨b8.sub, b8.live.upd, (b.env.mono (sm1'.trans sm2)).mono c0, trivial, b8.xw.put (by exact nD), b8.st.trans c0, trivial⟩, ((s5.trans sm1').trans sm2).trans c0, _, upd_same, ?_⟩
        have e1 : row (ys.take (l + 1)) x = row (ys.take l) x ++ [(f x yv, dv x yv)] := by
          show (ys.take (l + 1)).map _ = (ys.take l).map _ ++ _
          rw [take_more ey, List.map_append]
          rfl
        have e2 : fold ((xs.take k).flatMap (row ys) ++ row (ys.take (l + 1)) x) = putP (fold ((xs.take k).flatMap (row ys) ++ row (ys.take l) x)) (f x yv) (dv x yv) := by
          rw [e1, ← List.append_assoc]
          show List.foldl _ _ (_ ++ [_]) = _
          rw [List.foldl_append]
          rfl
        rw [e2]
        exact (hk8.put o8).mono c0
    · have l2 : (ys.map PyData.int).length = ys.length := List.length_map _
      rw [l2, List.take_length] at hk5
      refine ⟨⟨b.sub, b.live, a.env.mono (sm0.trans b.st), trivial, b.xw, (a.st.trans sm0).trans b.st, trivial⟩, kv5, hD5, ?_⟩
      rw [fl k x ex]
      exact hk5
  · rw [xsl, List.take_length] at hk
    refine q D kvs H' ?_ (x1.trans a.xw) n0 hD hk
    have m1 : Same (cut ms H1) (cut ms H') := ((cut_new nD).trans a.st).trans cut_cons
    exact ⟨fun b z => (by cases z), fun b z => a.live b (List.mem_cons_of_mem _ z), h1.env.mono m1, trivial, h1.xw.trans a.xw, h1.st.trans m1, trivial⟩
theorem swapc {a b : Addr} (H : Hp) : cut (a :: b :: ms) H = cut (b :: a :: ms) H := by
  funext x
  by_cases q : x ∈ a :: b :: ms
  · rw [cut_in q, cut_in (by simp only [List.mem_cons] at q ⊢; rcases q with q | q | q <;> simp [q])]
  · rw [cut_out q, cut_out (by simp only [List.mem_cons, not_or] at q ⊢; exact ⟨q.2.1, q.1, q.2.2⟩)]
/-- a, b = two new dicts -/
theorem q_parKK {j k : Nat} {r1 r2 : PRow} (h : At K W ms B ρ σ H) (e1 : EvK K W ta ρ r1) (e2 : EvK K W tb ρ r2)
    (kk : ∀ l1 l2 σ' H', At K W (l2 :: l1 :: ms) B ((ρ.set j (.raw (.ref l1))).set k (.raw (.ref l2))) σ' H' → OwnK K W (l2 :: l1 :: ms) B l1 r1 H' → OwnK K W (l2 :: l1 :: ms) B l2 r2 H' → l1 ≠ l2 → tz D σ' H') : tSeq (tPar j k (tCons ta (tCons tb tNil))) tz D σ H :=
  e1 ms B σ H h _ fun l1 kvs1 H1 h1 x1 n1 g1 o1 => by
    obtain ⟨a0, am, aw⟩ := h.fresh n1
    have h1' := h.adopt x1 h1 n1 g1
    refine e2 (l1 :: ms) B σ H1 h1' _ fun l2 kvs2 H2 h2 x2 n2 g2 o2 => ?_
    obtain ⟨b0, bm, bw⟩ := h1'.fresh n2
    have h2' := h1'.adopt x2 h2 n2 g2
    have own1 : OwnK K W (l2 :: l1 :: ms) B l1 r1 H2 := ⟨by simp, aw, a0, kvs1, x2 l1 _ aw g1, o1.mono ((cut_new n2).trans (x2.cut fun a z => List.mem_cons_of_mem _ (h1'.sub a z)))⟩
    have own2 : OwnK K W (l2 :: l1 :: ms) B l2 r2 H2 := ⟨List.mem_cons_self, bw, b0, kvs2, g2, o2⟩
    have ne : l1 ≠ l2 := fun z => bm (by rw [z]; exact List.mem_cons_self)
    exact ⟨_, _, rfl, kk l1 l2 _ _ ((h2'.set (s := .raw (.ref l1)) rfl j).set (s := .raw (.ref l2)) rfl k) own1 own2 ne⟩
/-- for k, pair in d.items(), d one's own -/
theorem q_forItems {row : PRow} {S : Int × (Int × Int) → List Sl} {Y : Nat → Hp → Prop} (h : At K W ms B ρ σ H) (o : OwnK K W ms B l row H) (hr : ρ[i]? = some (.raw (.ref l))) (l0 : Le ρ0 ρ) (y0 : Y 0 H)
    (ys : ∀ j H H', Same H H' → Y j H → Y j H') (yu : ∀ j H u, Y j H → Y j (upd H l u))
    (tg : ∀ e ∈ row, ∃ js, Tg K W g js (.tuple [.int e.1, pairI e.2]) ρ0 (S e))
    (hs : ∀ od kvs Hb j e σ' H', row[j]? = some e → At K W ms ⟨B.h0, Hb⟩ (S e) σ' H' → H' l = some (.frz od (.dK kvs)) → (∀ ρ' σ2 H2, At K W ms ⟨B.h0, Hb⟩ ρ' σ2 H2 → At K W ms B ρ' σ2 (upd H2 l (.dK kvs))) → Y j H' →
      ts ⟨fun σ H => At K W ms ⟨B.h0, Hb⟩ ρ0 σ H ∧ H l = some (.frz od (.dK kvs)) ∧ Y (j + 1) H, fun v H2 => H2 l = some (.frz od (.dK kvs)) ∧ D.rt v (upd H2 l (.dK kvs)), fun σ2 H2 => H2 l = some (.frz od (.dK kvs)) ∧ tz D σ2 (upd H2 l (.dK kvs)), fun σ H => At K W ms ⟨B.h0, Hb⟩ ρ0 σ H ∧ H l = some (.frz od (.dK kvs)) ∧ Y (j + 1) H⟩ σ' H')
    (hd : ∀ σ' H', At K W ms B ρ0 σ' H' → OwnK K W ms B l row H' → Y row.length H' → tz D σ' H') : tSeq (tLock (tFor (iItems (tVar i)) g ts)) tz D σ H := by
  obtain ⟨kvs, hd0, kr⟩ := o.val
  obtain ⟨w, ew, ow⟩ := h.env.get hr (by intro q; cases q)
  obtain rfl : w = .ref l := ow
  refine ⟨l, .dK kvs, hd0, trivial, fun od => ?_⟩
  have h1 : At K W ms B ρ σ (upd H l (.frz od (.dK kvs))) := h.write o.mem o.nws o.h0
  have kr1 : KvR K (cut ms (upd H l (.frz od (.dK kvs)))) kvs row := kr.mono (cut_put (.inl o.mem))
  have un : ∀ ρ' σ2 H2, At K W ms ⟨B.h0, upd H l (.frz od (.dK kvs))⟩ ρ' σ2 H2 → At K W ms B ρ' σ2 (upd H2 l (.dK kvs)) := fun ρ' σ2 H2 g => (h1.un g).write o.mem o.nws o.h0
  refine ⟨.ref l, ew, l, od, kvs, rfl, upd_same, ?_⟩
  refine for_it walk_items (fun j σ H' => At K W ms ⟨B.h0, upd H l (.frz od (.dK kvs))⟩ ρ0 σ H' ∧ H' l = some (.frz od (.dK kvs)) ∧ Y j H') ⟨h1.re.le l0, upd_same, yu 0 H _ y0⟩ (fun j σ H' _ p => p.2.1) (fun j x σ2 H2 H3 hj p y => ?_) fun σ2 H2 p => ?_
  · obtain ⟨T, kx, vx, rfl, hT, rfl, e1, e2⟩ := y
    have lj : j < row.length := by rw [← kr.len]; exact hj
    have er : row[j]? = some row[j] := List.getElem?_eq_getElem lj
    have mr : row[j] ∈ row := List.getElem_mem lj
    generalize row[j] = e at er mr
    obtain ⟨kv, ekv, ek, dv⟩ := kr1.at er
    dsimp only at e1 e2
    rw [ekv] at e1 e2
    have e1' : kV kv.1 = kx := Option.some.inj e1
    have e2' : kv.2 = vx := Option.some.inj e2
    subst e1' e2'
    rw [ek]
    obtain ⟨js, tj⟩ := tg e mr
    have a1 := p.1.same (same_put (o := .tup [kV (Sum.inl e.1 : Key), kv.2]) hT)
    exact tj ms _ σ2 _ (.ref T) a1 (Sl.new_tup (ds := [.int e.1, pairI e.2]) p.1.live hT (.cons (.int _) (.cons (dp_mono p.1.st _ _ dv) .nil))) _ fun σ3 h3 _ => hs od kvs _ j e σ3 _ er h3 (same_put hT _ _ p.2.1) un (ys j _ _ (same_put hT) p.2.2)
  · have a2 := un _ _ _ p.1
    refine ⟨p.2.1, hd σ2 _ a2 ⟨o.mem, o.nws, o.h0, kvs, upd_same, kr1.mono (p.1.st.trans (cut_put (.inl o.mem)))⟩ ?_⟩
    have e : kvs.length = row.length := kr.len
    rw [← e]
    exact yu _ _ _ p.2.2
/-! ### lending -/
theorem run_lend {Ψ : PyData → Prop} {Q : VK} (h : At K W (l :: ms) B ρ σ H) (o : Own K W (l :: ms) B l ds H) (hm : l ∉ ms) (hr : ρ[i]? = some (.raw (.ref l))) (e : En K W te (ρ.set i (.dat (.list ds))) (IsD fun d => noList d = true ∧ Ψ d))
    (k : ∀ d v H', Ψ d → At K W (l :: ms) B ρ σ H' → XW W.ws H H' → Own K W (l :: ms) B l ds H' → Dp K (cut (l :: ms) H') v d → Q v H') : te σ H Q := by
  obtain ⟨vs, el, dd⟩ := o.val
  refine e ms (B.off l) σ H (h.off.lend ⟨o.mem, o.nws, o.h0, o.val⟩ hm (by show (if l = l then none else B.hb l) = none; rw [if_pos rfl]) hr) _ fun s v H1 φ h1 x1 o1 => ?_
  obtain ⟨d, rfl, nl, ψ⟩ := φ
  have e1 := x1 l _ o.nws el
  have g1 : At K W (l :: ms) B ρ σ H1 := h.go x1 (fun a z => (List.mem_cons.mp z).elim (fun q => by rw [q]; exact ⟨_, e1⟩) (h1.live a)) h1.p
  exact k d v H1 ψ g1 x1 (o.go h.sub x1) (dp_nolist e1 d v nl o1)
/-- a target set by an expression that may read one's own list -/
theorem q_tgtL {Ψ : PyData → Prop} (h : At K W (l :: ms) B ρ σ H) (o : Own K W (l :: ms) B l ds H) (hm : l ∉ ms) (hr : ρ[i]? = some (.raw (.ref l))) (e : En K W te (ρ.set i (.dat (.list ds))) (IsD fun d => noList d = true ∧ Ψ d))
    (k : ∀ d, Ψ d → ∃ js ρ', Tg K W g js d ρ ρ' ∧ ∀ σ' H', At K W (l :: ms) B ρ' σ' H' → Own K W (l :: ms) B l ds H' → tz D σ' H') : tSeq (tAsg te g) tz D σ H := run_lend h o hm hr e fun d v H1 ψ g1 _ o1 od => by
  obtain ⟨js, ρ', tj, kk⟩ := k d ψ
  exact tj (l :: ms) B σ H1 v g1 od _ fun σ' h' _ => kk σ' H1 h' o1
theorem dpa_set : ∀ {ds : List PyData} {vs : List V} (n : Nat) {v : V} {d : PyData}, Dp K H v d → DpAll K H vs ds → DpAll K H (vs.set n v) (ds.set n d)
  | [], _, n, v, d, _, h => by cases h; exact .nil
  | _ :: _, _, 0, v, d, hd, h => by cases h with | cons _ t => exact .cons hd t
  | _ :: _, _, n + 1, v, d, hd, h => by cases h with | cons a t => exact .cons a (dpa_set n hd t)
theorem ix_nat {n m : Nat} (h : m < n) : ixN n (m : Int) = some m := by
  unfold ixN
  rw [if_pos (Int.natCast_nonneg m), if_pos (by omega), Int.toNat_natCast]
/-- l[e] = v, which may read l -/
theorem s_setL {Ψ : PyData → Prop} {m : Nat} (h : At K W (l :: ms) B ρ σ H) (o : Own K W (l :: ms) B l ds H) (hm : l ∉ ms) (hr : ρ[i]? = some (.raw (.ref l))) (e : En K W te (ρ.set i (.dat (.list ds))) (IsD fun d => noList d = true ∧ Ψ d)) (ei : Evd K W ti ρ (.int (m : Int))) (hl : m < ds.length)
    (k : ∀ d H', Ψ d → At K W (l :: ms) B ρ σ H' → Own K W (l :: ms) B l (ds.set m d) H' → D.nx σ H') : tAsg te (gSub (tVar i) ti rSetL) D σ H := run_lend h o hm hr e fun d v H1 ψ g1 _ o1 od => by
  obtain ⟨w, ew, ow⟩ := g1.env.get hr (by intro q; cases q)
  obtain rfl : w = .ref l := ow
  refine ⟨_, ew, ei (l :: ms) B σ H1 g1 _ fun jv H2 g2 x2 oj => ?_⟩
  cases oj
  have o2 := o1.go g1.sub x2
  obtain ⟨vs, el, dd⟩ := o2.val
  have od2 := dp_mono (x2.cut g1.sub) _ _ od
  refine ⟨l, vs, m, m, rfl, rfl, el, ix_nat (by rw [dpa_len dd]; exact hl), ?_⟩
  exact k d _ ψ (g2.write o2.mem o2.nws o2.h0) ⟨o2.mem, o2.nws, o2.h0, vs.set m v, upd_same, dpa_mono (cut_put (.inl o2.mem)) _ _ (dpa_set m od2 dd)⟩
theorem q_setL {Ψ : PyData → Prop} {m : Nat} (h : At K W (l :: ms) B ρ σ H) (o : Own K W (l :: ms) B l ds H) (hm : l ∉ ms) (hr : ρ[i]? = some (.raw (.ref l))) (e : En K W te (ρ.set i (.dat (.list ds))) (IsD fun d => noList d = true ∧ Ψ d)) (ei : Evd K W ti ρ (.int (m : Int))) (hl : m < ds.length)
    (k : ∀ d H', Ψ d → At K W (l :: ms) B ρ σ H' → Own K W (l :: ms) B l (ds.set m d) H' → tz D σ H') : tSeq (tAsg te (gSub (tVar i) ti rSetL)) tz D σ H := s_setL (D := { D with nx := tz D }) h o hm hr e ei hl k
/-! ### more expressions -/
theorem ed_star {ta : TA} (h : Evd K W te ρ (.tuple ds)) (hr : EvD K W ta ρ es) : EvD K W (StX.tStar K te ta) ρ (ds ++ es) := fun ms B σ H g Q q => h ms B σ H g _ fun v H1 g1 x1 o1 => by
  cases o1 with
  | tup hs ha => exact ⟨_, _, rfl, .inl (sqt_mono cut_le hs), hr ms B σ H1 g1 _ fun ys H2 g2 x2 o2 => q _ H2 g2 (x1.trans x2) (dpa_app (dpa_mono (x2.cut g1.sub) _ _ ha) o2)⟩
abbrev rMax2 : List V → Hp → VK → Prop := fun xs H Q => ∃ i j, xs = [.int i, .int j] ∧ Q (.int (if j > i then j else i)) H
theorem ev_max2 {i j : Int} (h : Evd K W ta ρ (.int i)) (h' : Evd K W tb ρ (.int j)) : Evd K W (tCB rMax2 (tCons ta (tCons tb tNil))) ρ (.int (if j > i then j else i)) := ev_cb (ed_cons h (ed_cons h' ed_nil)) (rc2 fun ms H v w l o o' Q q => by
  cases o; cases o'
  exact ⟨_, _, rfl, q _ H (Same.refl H) (.int _)⟩)
theorem dec_bl {i j : Bool} : decide (V.bl i = V.bl j) = decide (i = j) := by
  cases i <;> cases j <;> rfl
theorem ev_neB {a b : Bool} (ha : Evd K W ta ρ (.bool a)) (hb : Evd K W tb ρ (.bool b)) : Evd K W (tOp rNe ta tb) ρ (.bool (!decide (a = b))) := ev_op ha hb fun ms H x y _ hx hy Q q => by
  cases hx; cases hy
  exact ⟨rfl, q _ H (Same.refl H) (by rw [dec_bl]; exact .bl _)⟩
def isNo : PyData → Bool
  | .none => true
  | _ => false
theorem dec_non {ms : List Addr} {v : V} (h : Dp K (cut ms H) v d) : decide (v = V.non) = isNo d := by
  cases h <;> rfl
abbrev rIsNo : R2 := fun x y H Q => y = .non ∧ Q (.bl (decide (x = .non))) H
abbrev rNotNo : R2 := fun x y H Q => y = .non ∧ Q (.bl (!decide (x = .non))) H
theorem ev_isNo (h : Evd K W te ρ d) : Evd K W (tOp rIsNo te (tC .non)) ρ (.bool (isNo d)) := ev_op h ev_non fun ms H x y _ hx hy Q q => by
  cases hy
  exact ⟨rfl, q _ H (Same.refl H) (by rw [dec_non hx]; exact .bl _)⟩
theorem ev_notNo (h : Evd K W te ρ d) : Evd K W (tOp rNotNo te (tC .non)) ρ (.bool (!isNo d)) := ev_op h ev_non fun ms H x y _ hx hy Q q => by
  cases hy
  exact ⟨rfl, q _ H (Same.refl H) (by rw [dec_non hx]; exact .bl _)⟩
end
end Fw

/-! An own exception that is kept behind its except clause: its class stays known. -/
namespace Fw
open PySem PySem.Spec L2
open PyProof.Rows
/-- an exception object of the class cls -/
def ExK (cls : Value) (a : Addr) : HO := .ext fun h => ∃ (oe : Obj) (vs : Array Value), h.get? a = some oe ∧ Zc cls none oe ∧ oe.data = .fields vs
theorem exK_ok {P : Program} {w : World} {H : Hp} {h : Heap} {a : Addr} {cls : Value} {oe : Obj} {vs : Array Value} (e : h.get? a = some oe) (z : Zc cls none oe) (d : oe.data = .fields vs) : ObjOk P w H h a (ExK cls a) :=
  ⟨⟨oe, vs, e, z, d⟩, ⟨oe, e⟩, fun _ _ ⟨o, v, q, r⟩ k => ⟨o, v, k o q, r⟩⟩
section
variable {X : Cx} {pins : List (Addr × Obj)} {σ : L2.St} {H : Hp} {s : Shared}
/-- what stands in the heap, new since the entry, is tracked from here on -/
theorem Inv.track {a : Addr} {cls : Value} {oe : Obj} {vs : Array Value} (I : Inv X pins σ H s) (ha : s.heap.get? a = some oe) (z : Zc cls none oe) (d : oe.data = .fields vs) (na : H a = none) (n0 : X.s_0.heap.get? a = none) (nL : a ≠ X.env.locals) (np : ∀ p ∈ X.pn ++ pins, p.1 ≠ a) : Inv X pins σ (upd H a (ExK cls a)) s := by
  have ne0 : ∀ b o, X.s_0.heap.get? b = some o → b ≠ a := fun b o e q => by rw [q, n0] at e; cases e
  have nc : ∀ x c, X.env.cells.lookup x = some c → c ≠ a := fun x c e q => by
    obtain ⟨v, o, e1, e2⟩ := I.cell x c e
    rw [q, ha] at e1
    cases e1
    rw [d] at e2
    cases e2
  have keepT : ∀ {b : Addr} {u : HO}, H b = some u → upd H a (ExK cls a) b = some u := fun {b u} e => by rw [upd_ne (ne_of_none e na)]; exact e
  refine ⟨I.ok, I.os, I.bare, ⟨I.base.keep, I.base.slot, fun b o e n hx => ?_, I.base.there, fun b xs e => keepT (I.base.tups b xs e), fun b o u e => keepT (I.base.frzs b o u e), fun b ps e => ?_⟩, I.loc, I.cell, ?_, fun x c e => ?_, fun p hp => ?_, HOk.laidN I.hok (fun _ _ q => q) na (exK_ok ha z d), I.len⟩
  · rw [upd_ne (ne0 b o e)]; exact I.base.free b o e n hx
  · obtain ⟨m, q⟩ := I.base.tbls b ps e
    exact ⟨m, keepT q⟩
  · rw [upd_ne (Ne.symm nL)]; exact I.free
  · rw [upd_ne (nc x c e)]; exact I.freeC x c e
  · obtain ⟨h1, h2, h3⟩ := I.pin p hp
    exact ⟨h1, by rw [upd_ne (np p hp)]; exact h2, h3⟩
end
/-- what the clause 'except x as n' wishes, if the caught one is kept by the suite: slot i is n's -/
def wKeep (K : PySem.W.Frag) (c : Value) (i : Nat) (ts : Addr → TS) (D : Ends) : WX := fun cls d σ H =>
  PySem.W.exmOne K cls c = some true ∧ d = none ∧ ∀ a, H a = none → ts a { nx := fun σ' H' => D.nx (σ'.set i none) (upd H' a (ExK cls a)), rt := fun _ _ => False, bk := fun _ _ => False, ct := fun _ _ => False } (σ.set i (some (.ref a))) H
section
variable {X : Cx} {x n : Str} {c : Value} {i : Nat} {body suite : List Stmt} {b₀ : Stmt} {np pos pos' : Pos} {tb : WX → TS} {ts : Addr → TS}
theorem ps_try_keep (hs : X.stack = X.env :: X.outer) (hf : X.env.frame = some X.env.locals) (hx : X.ex = []) (hN : X.N.Nodup) (hi : X.N[i]? = some n) (hln : X.env.kindOf n = some .local) (hc : Names X x c)
    (hb : ∀ (W : WX) (pn : List (Addr × Obj)) (xe : Value → Shared → Prop), Takes (X.tr pn xe) W → PSs (X.tr pn xe) body (tb W))
    (hsu : ∀ (a : Addr) (oe : Obj) (pn : List (Addr × Obj)), PSs (X.suite a ((a, oe) :: pn)) (b₀ :: suite) (ts a)) :
    PS X (.Try body [.ExceptHandler (some (.Name x np)) (some n) (b₀ :: suite) pos'] [] [] pos) (fun D σ H => tb (wKeep X.K c i ts D) D σ H) := by
  refine ⟨fun pins s σ H D I h => ?_⟩
  have ok := I.ok
  have hfr : X.A.frames = some (X.env :: X.outer) := by rw [ok.frames, hs]
  have hloc : Loc X.env.scope n := .inl hln
  refine wpAny_Try_except ?_
  refine wpAny_mono ((hb (wKeep X.K c i ts D) (X.pn ++ pins) (fun e s₁ => wpAny (model X.prog X.w) X.A (noteFrame e X.env) (fun _ s₂ => wpAny (model X.prog X.w) X.A (setFlight e none) (fun _ s₃ =>
    wpAny (model X.prog X.w) X.A (handleBy e X.env [.ExceptHandler (some (.Name x np)) (some n) (b₀ :: suite) pos']) (SP X pins D) X.xe s₃) X.xe s₂) X.xe s₁) (fun u s' xx => ?_)).run [] s σ H D (I.toTry _) h) (fun f s1 hsp => ?_) (fun e s1 he => he)
  · obtain ⟨a, B, sI, pins', σ', H', cls, d, rfl, J', nb, up, sky, na, os, ag, hb1, rfl, hyes⟩ := xx
    have J : Inv X pins σ' H' sI := J'.ofTry ok
    have sky' : Sky B (X.env :: X.outer) a (Zc cls none) X.env.locals s'.heap := by rw [← hs]; exact sky
    show wpAny (model X.prog X.w) X.A (noteFrame (.ref a) X.env) _ _ _
    refine Sky.land Zc.steady hfr hf sky' fun h3 fl3 up3 => ?_
    have J3 : Inv X pins σ' H' { s' with heap := h3 } := J.landed nb fl3.1 (up.trans up3) os ag
    obtain ⟨oe3, vs3, he3, hz3, hd3⟩ := fl3.there
    have nfr : a ∉ frs (X.env :: X.outer) := fun hm => by
      obtain ⟨_, o', e', hnf⟩ := fl3.2.2.1.mem hm
      rw [he3] at e'; cases e'
      exact hnf _ hd3
    have nL : a ≠ X.env.locals := fun z => nfr (List.mem_filterMap.mpr ⟨X.env, List.mem_cons_self, by rw [hf, z]⟩)
    have nF : a ∉ X.fs := fun hm => by
      obtain ⟨e, he, q⟩ := List.mem_filterMap.mp hm
      exact nfr (List.mem_filterMap.mpr ⟨e, List.mem_cons_of_mem _ he, q⟩)
    -- it is new since the entry
    have nI : sI.heap.get? a = none := by
      cases q : sI.heap.get? a with
      | none => rfl
      | some o =>
        have z := nb a o q (by rw [hs]; exact nfr)
        rw [fl3.2.1] at z; cases z
    have n0 : X.s_0.heap.get? a = none := by
      cases q : X.s_0.heap.get? a with
      | none => rfl
      | some o =>
        obtain ⟨o', z⟩ := J.base.there a o q (by rw [hx]; exact fun z => nomatch z)
        rw [nI] at z; cases z
    have npn : ∀ p ∈ X.pn ++ pins, p.1 ≠ a := fun p hp q => by
      have z := (J.pin p hp).1
      rw [q, nI] at z; cases z
    have S3 := J3.suite he3 hd3 na nL nF
    refine wpAny_handleBy_cons (codeAny_handlers_test ?_) (by intro q; cases q)
    have LT : PySem.W.Looks (model X.prog X.w) h3 (typeOf (.ref a)) cls := fun A Q E s k q => wpAny_typeOf_ref (k _ _ he3) (by rw [hz3.1]; exact q)
    have LM := PySem.W.exm_one (M := model X.prog X.w) (J3.kIn) LT hb1
    have test : ∀ {Q : Value → Shared → Prop} {E : Value → Shared → Prop}, Q c { s' with heap := h3 } → wpAny (model X.prog X.w) (X.A.mark (some (.ref a))) (eval (.Name x np) X.env) Q E { s' with heap := h3 } := fun {Q E} q => by
      obtain ⟨hg, hdbg, hm | ⟨hm, hv, hnn⟩⟩ := hc
      · exact ld_glob (X := X.suite a ((a, oe3) :: (X.pn ++ pins))) S3 hg hm q hdbg
      · exact ld_blt (X := X.suite a ((a, oe3) :: (X.pn ++ pins))) S3 hg hm hv q hnn hdbg
    refine test (LM.here ?_)
    refine codeAny_handlers_suite_as ?_
    refine HandSPX.lands_againZ fl3 fun h4 fl4 up4 => ?_
    have J4 : Inv X pins σ' H' { s' with heap := h4 } := J.landed nb fl4.1 ((up.trans up3).trans up4) os ag
    obtain ⟨oe4, vs4, he4, hz4, hd4⟩ := fl4.there
    have S4 := J4.suite he4 hd4 na nL nF
    refine store_ok (X := X.suite a ((a, oe4) :: (X.pn ++ pins))) (v := .ref a) S4 hN hi hloc rfl (fun s5 S5 => ?_) (.inr hln)
    refine wpAny_mono ((hsu a oe4 (X.pn ++ pins)).run [] s5 _ H' _ S5 (hyes a na)) (fun f s6 hsp => ?_) (fun _ _ z => False.elim z)
    cases f with
    | next =>
      obtain ⟨σ6, H6, S6, q6⟩ := hsp
      refine gone_ok (X := X.suite a ((a, oe4) :: (X.pn ++ pins))) S6 hN hi hln fun s7 S7 => ?_
      obtain ⟨ea, n7, _⟩ := S7.pin (a, oe4) (List.mem_append_left _ List.mem_cons_self)
      exact ⟨_, _, Inv.track (S7.unsuite ok) ea hz4 hd4 n7 n0 nL npn, q6⟩
    | brk => obtain ⟨_, _, _, z⟩ := hsp; exact z.elim
    | cont => obtain ⟨_, _, _, z⟩ := hsp; exact z.elim
    | ret u => obtain ⟨_, _, _, _, _, z⟩ := hsp; exact z.elim
  · cases f with
    | next =>
      obtain ⟨σ', H', J', q⟩ := hsp
      exact wpAny_execs_nil ⟨σ', H', J'.ofTry ok, q⟩
    | brk =>
      obtain ⟨σ', H', J', q⟩ := hsp
      exact ⟨σ', H', J'.ofTry ok, q⟩
    | cont =>
      obtain ⟨σ', H', J', q⟩ := hsp
      exact ⟨σ', H', J'.ofTry ok, q⟩
    | ret u =>
      obtain ⟨v, σ', H', J', r, q⟩ := hsp
      exact ⟨v, σ', H', J'.ofTry ok, r, q⟩
/-- isinstance(x, c): x None or a kept exception -/
def rIsX (K : PySem.W.Frag) : List V → Hp → VK → Prop := fun xs H Q => rIsi K xs H Q ∨ ∃ (a D : Addr) (c : V) (cv : Value) (b : Bool), xs = [.ref a, c] ∧ H a = some (ExK (.ref D) a) ∧ ExcC K D ∧ ClsV c cv ∧ PySem.W.kitOne K (.ref D) cv = some b ∧ Q (.bl b) H
theorem call_isX : CallR X (.builtin "isinstance") (rIsX X.K) := by
  intro pins s σ H xs us Q I r h
  rcases h with h | ⟨a, D, c, cv, b, rfl, ha, C, k, e, q⟩
  · exact call_isi pins s σ H xs us Q I r h
  obtain ⟨u1, u2, rfl, r1, r2⟩ := vals2 r
  cases (show u1 = Value.ref a from r1)
  have e2 := k.eq r2
  subst e2
  obtain ⟨⟨oe, vs, ho, hz, hd⟩, _, _⟩ := I.hok a _ ha
  have J : PySem.W.InstAt s.heap a oe D none := by
    obtain ⟨oc, od, oda, osl⟩ := oe
    obtain ⟨h1, h2⟩ := hz
    dsimp only at h1 h2 hd
    subst h1 h2 hd
    exact ⟨ho, rfl, rfl, trivial⟩
  exact PySem.W.kia_one (PySem.W.handS_kitx_exc C.hg C.hk C.hs C.hd C.ha C.hn C.ht C.hm) I.kIn J e (fun z => nomatch z) fun tk => ⟨.bl b, H, I.tok tk, rfl, q⟩
end
end Fw

/-! Draws out of any source; the source of cells and digits. -/
namespace Fw
open PySem L2
open PyProof.Rows (envOfC)
section
variable {K : PySem.W.Frag} {α : Type} {U : α → Wd} {rt : α → Addr} {ms : List Addr} {B : Bs} {H H' : Hp} {ρ : List Sl} {σ : L2.St} {i : Nat}
def spU (K : PySem.W.Frag) (U : α → Wd) (rt : α → Addr) (Pre : List PyData → Prop) (Φ : List PyData → PyData → Prop) : Sp := fun vs H Q _ => ∃ (A : α) (ms : List Addr) (ds : List PyData) (ws : List V), vs = .ref (rt A) :: ws ∧ (∀ a ∈ (U A).ws, a ∈ ms) ∧ Live ms H ∧ (U A).P H ∧ (U A).C (cut ms H) ∧ DpAll K (cut ms H) ws ds ∧ Pre ds ∧
  ∀ d v H', Φ ds d → XW (U A).ws H H' → Live ms H' → (U A).P H' → Dp K (cut ms H') v d → Q v H'
theorem en_callU {A : α} {Pre : List PyData → Prop} {Φ : List PyData → PyData → Prop} {Ψ : List PyData → Prop} {ta : TA} {E : XK} (h : ρ[i]? = some (.raw (.ref (rt A)))) (ha : EnD K (U A) ta ρ Ψ) (hp : ∀ ds, Ψ ds → Pre ds) : En K (U A) (tCall (spU K U rt Pre Φ) [] E (tCons (tVar i) ta)) ρ (IsD fun d => ∃ ds, Ψ ds ∧ Φ ds d) := fun ms B σ H a Q q => by
  obtain ⟨v, e, o⟩ := a.env.get h (by intro q; cases q)
  obtain rfl : v = .ref (rt A) := o
  refine ⟨_, e, ha ms B σ H a _ fun ds ws H1 ψ h1 x1 o1 => ?_⟩
  show spU K U rt Pre Φ ((.ref (rt A) :: ws) ++ []) H1 Q E
  rw [List.append_nil]
  exact ⟨A, ms, ds, ws, rfl, h1.sub, h1.live, h1.p, h1.c, o1, hp ds ψ, fun d v H2 φ x2 l2 p2 o2 => q (.dat d) v H2 ⟨d, rfl, ds, ψ, φ⟩ (h1.go x2 l2 p2) (x1.trans x2) o2⟩
def RunsU (K : PySem.W.Frag) (U : α → Wd) (t : TS) (ρ : α → List Sl) (Φ : PyData → Prop) : Prop :=
  ∀ (A : α) (ms : List Addr) (σ : L2.St) (H : Hp) (Q : VK), At K (U A) ms ⟨H, H⟩ (ρ A) σ H → (∀ d v H', Φ d → At K (U A) ms ⟨H, H⟩ [] [] H' → Dp K (cut ms H') v d → Q v H') → t { nx := fun _ H' => Q .non H', rt := Q } σ H
section
variable {P : Program} {w : World} {mg : Str → Option Value} {base : Heap}
theorem drawOkU {x qual : Str} {st : Stmt} {f : Addr} {fd : FuncData} {N ps : List Str} {k : Nat} {Pre : List PyData → Prop} {Φ : List PyData → PyData → Prop} (F : Fun K x qual st f fd) (S : FnScope N ps (defScope st)) (hG : ∀ ds, Pre ds → ds.length + 1 = ps.length)
    (hb : ∀ (cdv : Value) (A : Around) (outer : List Env) (s : Shared) (H : Hp) (E : XK), Room k (A.deeper (envOfC qual (defScope st) s.heap.objs.size f cdv)) →
      ∃ t, PSs (cxOf CX0 P w K mg base N qual (defScope st) f cdv A outer s H E).nox (defBody st) t ∧ ∀ ds, Pre ds → RunsU K U t (fun A => .raw (.ref (rt A)) :: (ds.map .dat ++ List.replicate (N.length - (ds.length + 1)) .emp)) (Φ ds)) : FnOk P w K mg base CX0 (k + 1) f fd ps (spU K U rt Pre Φ) := by
  refine F.ok S (fun vs H Q E h => ?_) fun cdv A outer s H vs Q E hr h => ?_
  · obtain ⟨A, ms, ds, ws, rfl, _, _, _, _, o, p, _⟩ := h
    rw [List.length_cons, dpa_len o, hG ds p]
  · obtain ⟨A2, ms, ds, ws, rfl, sub, l, p, c, o, pre, q⟩ := h
    obtain ⟨t, ht, hr⟩ := hb cdv A outer s H E hr
    refine ⟨t, ht, hr ds pre A2 ms _ H Q ⟨sub, l, ?_, p, .refl H, Same.refl _, c⟩ fun d v H' φ a od => q d v H' φ a.xw a.live a.p od⟩
    have e : L2.start N (.ref (rt A2) :: ws) = some (.ref (rt A2)) :: (ws.map some ++ List.replicate (N.length - (ds.length + 1)) none) := by
      unfold L2.start
      rw [List.map_cons, List.length_cons, dpa_len o]
      rfl
    rw [e]
    exact env_argsN o
end
end
/-! ### cells, digits, a count -/
structure SeA where
  d : Addr
  l : Addr
  c : Addr
  cells : List Int
  ne : d ≠ l
  pos : 0 < cells.length
  few : cells.length ≤ 1000
def seKv (A : SeA) (t : Int) : List (Key × V) := [(.inr "cells", .ref A.c), (.inr "digits", .ref A.l), (.inr "count", .int t)]
def seAt (A : SeA) (dg : List Int) (t : Int) (H : Hp) : Prop := dg.length = A.cells.length ∧ H A.d = some (.dK (seKv A t)) ∧ H A.l = some (.lst (dg.map .int))
def SW (K : PySem.W.Frag) (A : SeA) : Wd where
  ws := [A.d, A.l]
  P := fun H => ∃ dg t, seAt A dg t H
  sup := fun H H' k ⟨dg, t, h0, h1, h2⟩ => ⟨dg, t, h0, k _ (by simp) _ h1, k _ (by simp) _ h2⟩
  C := fun H => Dp K H (.ref A.c) (.list (A.cells.map .int))
  mono := fun H H' s h => dp_mono s _ _ h
theorem str_cd : ¬ (("cells" : Str) = "digits") := by decide +kernel
theorem str_cn : ¬ (("cells" : Str) = "count") := by decide +kernel
theorem str_dn : ¬ (("digits" : Str) = "count") := by decide +kernel
theorem get_seC (A : SeA) (t : Int) : valV (seKv A t) (.inr "cells") = some (.ref A.c) := by simp [valV, seKv]
theorem get_seD (A : SeA) (t : Int) : valV (seKv A t) (.inr "digits") = some (.ref A.l) := by simp [valV, seKv, str_cd, List.find?_cons]
theorem get_seN (A : SeA) (t : Int) : valV (seKv A t) (.inr "count") = some (.int t) := by simp [valV, seKv, str_cn, str_dn, List.find?_cons]
theorem put_seN (A : SeA) (t z : Int) : putK (seKv A t) (.inr "count") (.int z) = seKv A z := by simp [putK, seKv, str_cn, str_dn]
section
variable {K : PySem.W.Frag} {A : SeA} {ms : List Addr} {B : Bs} {H H' : Hp} {ρ : List Sl} {σ : L2.St} {i : Nat} {D : Ends} {ta tb te ti tv : TE} {tz : TS}
theorem At.se (h : At K (SW K A) ms B ρ σ H) {a : Addr} {o : HO} (ha : a ∈ [A.d, A.l]) (p : ∃ dg t, seAt A dg t (upd H a o)) : At K (SW K A) ms B ρ σ (upd H a o) := by
  have hm : a ∈ ms := h.sub a ha
  refine ⟨h.sub, h.live.upd, h.env.mono (cut_put (.inl hm)), p, fun b u n e => ?_, h.st.trans (cut_put (.inl hm)), dp_mono (cut_put (.inl hm)) _ _ h.c⟩
  rw [upd_ne (fun q => by subst q; exact n ha)]
  exact h.xw b u n e
theorem en_seN (h : ρ[i]? = some (.raw (.ref A.d))) : En K (SW K A) (tDGet (tVar i) (tC (.str "count"))) ρ (IsI fun _ => True) := fun ms B σ H a Q q => by
  obtain ⟨v, e, o⟩ := a.env.get h (by intro q; cases q)
  obtain rfl : v = .ref A.d := o
  obtain ⟨dg, t, e0, e1, e2⟩ := a.p
  have g := DGet.k (k := Sum.inr "count") e1
  rw [get_seN] at g
  exact ⟨_, e, A.d, .int t, rfl, g, q (.dat (.int t)) _ H ⟨_, rfl, trivial⟩ a (.refl H) (.int _)⟩
theorem ev_seC (h : ρ[i]? = some (.raw (.ref A.d))) : Evd K (SW K A) (tDGet (tVar i) (tC (.str "cells"))) ρ (.list (A.cells.map .int)) := fun ms B σ H a Q q => by
  obtain ⟨v, e, o⟩ := a.env.get h (by intro q; cases q)
  obtain rfl : v = .ref A.d := o
  obtain ⟨dg, t, e0, e1, e2⟩ := a.p
  have g := DGet.k (k := Sum.inr "cells") e1
  rw [get_seC] at g
  exact ⟨_, e, A.d, .ref A.c, rfl, g, q _ H a (.refl H) a.c⟩
theorem en_seD {m : Nat} (h : ρ[i]? = some (.raw (.ref A.d))) (hi : Evd K (SW K A) ti ρ (.int (m : Int))) (hm : m < A.cells.length) : En K (SW K A) (tOp (rIxL K) (tDGet (tVar i) (tC (.str "digits"))) ti) ρ (IsI fun _ => True) := fun ms B σ H a Q q => by
  obtain ⟨v, e, o⟩ := a.env.get h (by intro q; cases q)
  obtain rfl : v = .ref A.d := o
  obtain ⟨dg0, t0, _, f1, _⟩ := a.p
  have g := DGet.k (k := Sum.inr "digits") f1
  rw [get_seD] at g
  refine ⟨_, e, A.d, .ref A.l, rfl, g, hi ms B σ H a _ fun w H1 h1 x1 o1 => ?_⟩
  cases o1
  obtain ⟨dg, t, e0, e1, e2⟩ := h1.p
  have en : dg[m]? = some dg[m] := List.getElem?_eq_getElem (by omega)
  refine ⟨A.l, _, m, .int dg[m], rfl, rfl, SqL.of e2, ?_, q (.dat (.int dg[m])) _ H1 ⟨_, rfl, trivial⟩ h1 x1 (.int _)⟩
  unfold atI
  rw [ix_nat (by rw [List.length_map]; omega), Option.bind_some, List.getElem?_map, en]
  rfl
theorem q_seN (a : At K (SW K A) ms B ρ σ H) (h : ρ[i]? = some (.raw (.ref A.d))) (e : En K (SW K A) tv ρ (IsI fun _ => True)) (k : ∀ H', At K (SW K A) ms B ρ σ H' → tz D σ H') : tSeq (sDPut (tVar i) (tC (.str "count")) tv) tz D σ H := e ms B σ H a _ fun s v H1 φ h1 x1 o1 => by
  obtain ⟨n, rfl, _⟩ := φ
  cases o1
  obtain ⟨v, ev, o⟩ := h1.env.get h (by intro q; cases q)
  obtain rfl : v = .ref A.d := o
  obtain ⟨dg, t, e0, e1, e2⟩ := h1.p
  have g := DPut.k (k := Sum.inr "count") (v := .int n) e1 (by show 3 < sizeLine; decide)
  rw [put_seN] at g
  exact ⟨_, ev, A.d, _, rfl, g, k _ (h1.se (by simp) ⟨dg, n, e0, upd_same, by rw [upd_ne (Ne.symm A.ne)]; exact e2⟩)⟩
theorem q_seD {m : Nat} (a : At K (SW K A) ms B ρ σ H) (h : ρ[i]? = some (.raw (.ref A.d))) (hi : Evd K (SW K A) ti ρ (.int (m : Int))) (hm : m < A.cells.length) (e : En K (SW K A) tv ρ (IsI fun _ => True)) (k : ∀ H', At K (SW K A) ms B ρ σ H' → tz D σ H') : tSeq (tAsg tv (gSub (tDGet (tVar i) (tC (.str "digits"))) ti rSetL)) tz D σ H := e ms B σ H a _ fun s v H1 φ h1 x1 o1 => by
  obtain ⟨n, rfl, _⟩ := φ
  cases o1
  obtain ⟨v, ev, o⟩ := h1.env.get h (by intro q; cases q)
  obtain rfl : v = .ref A.d := o
  obtain ⟨dg0, t0, _, f1, _⟩ := h1.p
  have g := DGet.k (k := Sum.inr "digits") f1
  rw [get_seD] at g
  refine ⟨_, ev, A.d, .ref A.l, rfl, g, hi ms B σ H1 h1 _ fun w H2 h2 x2 o2 => ?_⟩
  cases o2
  obtain ⟨dg, t, e0, e1, e2⟩ := h2.p
  refine ⟨A.l, _, m, m, rfl, rfl, e2, ix_nat (by rw [List.length_map]; omega), k _ (h2.se (by simp) ⟨dg.set m n, t, by rw [List.length_set]; exact e0, by rw [upd_ne A.ne]; exact e1, ?_⟩)⟩
  rw [upd_same, List.map_set]
/-- the truth of a list's being there: xs or ys -/
theorem ev_orL {xs ys : List PyData} (ha : Evd K W0 ta ρ (.list xs)) (hb : Evd K W0 tb ρ (.list ys)) : Evd K W0 (tOrT K ta tb) ρ (.list (if xs.isEmpty then ys else xs)) := fun ms B σ H a Q q => ha ms B σ H a _ fun v H1 h1 x1 o1 => by
  cases xs with
  | nil =>
    cases o1 with
    | lst hs hd =>
      cases hd
      exact ⟨false, .inl ⟨_, sql_mono cut_le hs, rfl⟩, iteF (hb ms B σ H1 h1 Q fun v H2 h2 x2 o2 => q v H2 h2 (x1.trans x2) o2)⟩
  | cons x xs =>
    cases o1 with
    | @lst p vs _ hs hd =>
      have e : vs.isEmpty = false := by cases hd; rfl
      exact ⟨true, .inl ⟨_, sql_mono cut_le hs, by rw [e]; rfl⟩, iteT (q _ H1 h1 x1 (.lst hs hd))⟩
end
end Fw

/-! tuple * int, any number. -/
namespace Fw
open PySem PySem.Spec L2
open PyProof.Rows
theorem tuple_mul1 (l : Addr) (items : Array Value) (n : Nat) (dd : Option Addr) (sl : Array (Option Value)) (u : Tok) :
    Meets (Builtin.«tuple.__mul__» ⟨[.ref l, .int 1 u], []⟩) (fun _ R s => s.heap.get? l = some { cls := .type "tuple", dict := dd, data := .seq items n, slots := sl } ∧ R (.ok (.ret (Value.ref l))) s) :=
  .of_wp fun prog w A R s h => by
    obtain ⟨hp, g, d, tk, os⟩ := s
    obtain ⟨hl, h⟩ := h
    have f1 := AutoSeq1.idx_int
    wp_walk using wpAny_loadPart' hl
    repeat (first
      | (refine wpAny_ite_false (decide_eq_false (by decide)) ?_; wp_walk using wpAny_loadPart' hl)
      | (refine wpAny_ite_true (decide_eq_true (by simp)) ?_; wp_walk using wpAny_loadPart' hl))
    exact ⟨_, rfl, h⟩
theorem tuple_mul0 (l : Addr) (items : Array Value) (n : Nat) (dd : Option Addr) (sl : Array (Option Value)) (u : Tok) (hi : items.isEmpty = false) :
    Meets (Builtin.«tuple.__mul__» ⟨[.ref l, .int 0 u], []⟩) (fun _ R s => s.heap.get? l = some { cls := .type "tuple", dict := dd, data := .seq items n, slots := sl } ∧
      R (.ok (.ret (Value.ref s.heap.objs.size))) { s with heap := s.heap.push { cls := Value.type "tuple", data := Data.seq #[] }, toks := s.toks }) :=
  .of_wp fun prog w A R s h => by
    obtain ⟨hp, g, d, tk, os⟩ := s
    obtain ⟨hl, h⟩ := h
    have f1 := AutoSeq1.idx_int
    wp_walk using wpAny_loadPart' hl
    repeat (first
      | (refine wpAny_ite_false (decide_eq_false (by decide)) ?_; wp_walk using wpAny_loadPart' hl)
      | (refine wpAny_ite_false (decide_eq_false (by rw [hi]; decide)) ?_; wp_walk using wpAny_loadPart' hl)
      | (refine wpAny_ite_true (decide_eq_true (by simp)) ?_; wp_walk using wpAny_loadPart' hl))
    exact ⟨_, rfl, h⟩
/-- t * k -/
def rRepA (K : PySem.W.Frag) : R2 := fun x y H Q => ∃ l k xs, x = .ref l ∧ y = .int k ∧ SqT K H l xs ∧ xs ≠ [] ∧ 0 ≤ k ∧ k ≤ 1000 ∧ xs.length ≤ 1000 ∧ (k = 1 → Q (.ref l) H) ∧ (k ≠ 1 → ∀ p, H p = none → Q (.ref p) (upd H p (.tup (List.replicate k.toNat xs).flatten)))
theorem op_repA {X : Cx} : OpR X (binaryOp .Mult) (rRepA X.K) := by
  intro pins s σ H x y v u Q I rx ry h
  obtain ⟨l, k, xs, rfl, rfl, hT, hne, h1, h2, hz, q1, q⟩ := h
  by_cases hk : 2 ≤ k
  · exact op_repT pins s σ H _ _ v u Q I rx ry ⟨l, k, xs, rfl, rfl, hT, hne, hk, h2, hz, q (by omega)⟩
  cases rx
  obtain ⟨t, rfl⟩ := ry
  obtain ⟨its, r, ⟨⟨cls, dd, data, sl⟩, ho, hc, n, hd⟩, hs⟩ := I.tuple hT
  simp only at hc hd
  subst hc hd
  have hi : its.toArray.isEmpty = false := by
    cases r with
    | nil => exact absurd rfl hne
    | cons _ _ => rfl
  have hk : k = 0 ∨ k = 1 := by omega
  rcases hk with rfl | rfl
  · refine wpAny_binaryOp_repeat_ref (T := "tuple") (U := "int") (by decide) ⟨_, ho, rfl⟩ (fun s' => typeIs_int s' 0 t) noFill_tuple_mul F.fills_int_mul F.slot_int_rmul repeat_tuple F.slot_int_index.lookup
      (call_meets F.slot_int_rmul (typeIs_int s 0 t) F.entry_int_rmul (F.args_int_rmul_2 _ _) (int_rmul_tuple 0 t l its.toArray n dd sl)
        ⟨ho, rfl, ⟨_, ho, rfl⟩, call_meets F.slot_tuple_mul ⟨_, ho, rfl⟩ F.entry_tuple_mul (F.args_tuple_mul_2 _ _) (tuple_mul0 l its.toArray n dd sl t hi) ⟨ho, ?_⟩⟩)
    refine ⟨.ref s.heap.objs.size, _, I.laid (t' := s.toks) (o := .tup (List.replicate (0 : Int).toNat xs).flatten) (fun b ob q => Heap.get?_push_of_some _ q) (Nat.le_refl _) ?_, rfl, q (by decide) _ (I.hok.fresh (Nat.le_refl _))⟩
    exact ⟨Nat.zero_le _, [], .nil, IsTup.new _ _⟩
  · refine wpAny_binaryOp_repeat_ref (T := "tuple") (U := "int") (by decide) ⟨_, ho, rfl⟩ (fun s' => typeIs_int s' 1 t) noFill_tuple_mul F.fills_int_mul F.slot_int_rmul repeat_tuple F.slot_int_index.lookup
      (call_meets F.slot_int_rmul (typeIs_int s 1 t) F.entry_int_rmul (F.args_int_rmul_2 _ _) (int_rmul_tuple 1 t l its.toArray n dd sl)
        ⟨ho, rfl, ⟨_, ho, rfl⟩, call_meets F.slot_tuple_mul ⟨_, ho, rfl⟩ F.entry_tuple_mul (F.args_tuple_mul_2 _ _) (tuple_mul1 l its.toArray n dd sl t) ⟨ho, ?_⟩⟩)
    exact ⟨.ref l, H, I, rfl, q1 rfl⟩
section
variable {K : PySem.W.Frag} {W : Wd} {ρ : List Sl} {d : PyData} {ta tb : TE}
/-- (x,) * n -/
theorem ev_repT {n : Nat} (ha : Evd K W ta ρ (.tuple [d])) (hb : Evd K W tb ρ (.int (n : Int))) (hn : n ≤ 1000) : Evd K W (tOp (rRepA K) ta tb) ρ (.tuple (List.replicate n d)) := ev_op ha hb fun ms H x y lv hx hy Q q => by
  cases hy
  have hx' := hx
  cases hx with
  | @tup l vs _ hs hd =>
    cases hd with
    | @cons v _ _ _ h1 h2 =>
      cases h2
      refine ⟨l, n, [v], rfl, rfl, sqt_mono cut_le hs, by simp, by omega, by omega, by show 1 ≤ 1000; omega, fun e => q _ H (Same.refl H) ?_, fun e p hp => ?_⟩
      · obtain rfl : n = 1 := by omega
        exact hx'
      · refine q _ _ (same_put hp) ?_
        rw [Int.toNat_natCast, flat_rep]
        exact Sl.new_tup lv hp (dpa_rep h1)
end
end Fw

/-! zip of three lists. -/
namespace Fw
open PySem PySem.Spec L2
open PyProof.Rows
def Itz3 (K : PySem.W.Frag) (a b c : Addr) : It :=
  ⟨fun i H => ∃ (xs ys zs : List V), SqL K H a xs ∧ SqL K H b ys ∧ SqL K H c zs ∧ i < xs.length ∧ i < ys.length ∧ i < zs.length,
    fun i H v H' => ∃ T x y z, v = .ref T ∧ H T = none ∧ H' = upd H T (.tup [x, y, z]) ∧ (∀ xs, SqL K H a xs → xs[i]? = some x) ∧ (∀ ys, SqL K H b ys → ys[i]? = some y) ∧ ∀ zs, SqL K H c zs → zs[i]? = some z,
    fun i H => ∃ xs ys zs : List V, SqL K H a xs ∧ SqL K H b ys ∧ SqL K H c zs ∧ i = min (min xs.length ys.length) zs.length⟩
theorem turn_zip3 {P : Program} {w : World} {K : PySem.W.Frag} {elts : List Expr} {kk : Nat} {tpos : Pos} {a b c N : Addr} (ha : a < N) (hb : b < N) (hcN : c < N) :
    Turn P w K (.Tuple elts kk tpos) (Itz3 K a b c) [N + 5, N + 3, N + 4, N, N + 1, N + 2] (N + 5) (fun i h => IsZip h (N + 5) (N + 3) (N + 4) .none ∧ IsTupOf3 h (N + 3) (.ref N) (.ref (N + 1)) (.ref (N + 2)) ∧ (∃ x y z, IsTupOf3 h (N + 4) x y z) ∧ h.IsListIter N a i ∧ h.IsListIter (N + 1) b i ∧ h.IsListIter (N + 2) c i) := by
  have S : ZipSep3 (N + 5) (N + 3) (N + 4) N (N + 1) (N + 2) (N :: [a]) ((N + 1) :: [b]) ((N + 2) :: [c]) := zip_sep3 (fun x q => by rw [List.mem_singleton.mp q]; exact ha) (fun x q => by rw [List.mem_singleton.mp q]; exact hb) (fun x q => by rw [List.mem_singleton.mp q]; exact hcN)
  have na : a ≠ N := Nat.ne_of_lt ha
  have nb : b ≠ N + 1 := Nat.ne_of_lt (Nat.lt_succ_of_lt hb)
  have nc : c ≠ N + 2 := Nat.ne_of_lt (Nat.lt_succ_of_lt (Nat.lt_succ_of_lt hcN))
  have mem6 : ∀ {x : Addr}, x ∈ [N + 5, N + 3, N + 4, N, N + 1, N + 2] → x = N + 5 ∨ x = N + 3 ∨ x = N + 4 ∨ x = N ∨ x = N + 1 ∨ x = N + 2 := fun {x} h => by simpa using h
  refine ⟨by simp, fun i h st x hx => ?_, fun i h h' st k => ?_, ?_, ?_, fun A i s Q E st h => wpAny_pyIter_zip st.1 h⟩
  · obtain ⟨hz, hTI, ⟨_, _, _, hTO⟩, ⟨o1, e1, _, d1⟩, ⟨o2, e2, _, d2⟩, ⟨o3, e3, _, d3⟩⟩ := st
    rcases mem6 hx with q | q | q | q | q | q
    · rw [q]; exact ⟨_, hz, fun v q => nomatch q⟩
    · rw [q]; exact ⟨_, hTI, fun v q => nomatch q⟩
    · rw [q]; exact ⟨_, hTO, fun v q => nomatch q⟩
    · rw [q]; exact ⟨o1, e1, fun v q => by rw [d1] at q; cases q⟩
    · rw [q]; exact ⟨o2, e2, fun v q => by rw [d2] at q; cases q⟩
    · rw [q]; exact ⟨o3, e3, fun v q => by rw [d3] at q; cases q⟩
  · obtain ⟨hz, hTI, ⟨x, y, z, hTO⟩, h1, h2, h3⟩ := st
    exact ⟨k _ (by simp) _ hz, k _ (by simp) _ hTI, ⟨x, y, z, k _ (by simp) _ hTO⟩, h1.at fun o q => k N (by simp) o q, h2.at fun o q => k (N + 1) (by simp) o q, h3.at fun o q => k (N + 2) (by simp) o q⟩
  · intro X hP hw hK hc i pins s σ H E I hf st hg
    subst hP hw hK
    obtain ⟨hz, hTI, hTO, h1, h2, h3⟩ := st
    obtain ⟨xs, ys, zs, hqx, hqy, hqz, lx, ly, lz⟩ := hg
    obtain ⟨its, rv, p, _⟩ := I.list hqx
    obtain ⟨its2, rv2, p2, _⟩ := I.list hqy
    obtain ⟨its3, rv3, p3, _⟩ := I.list hqz
    have hh := I.ok.hd hc
    have W := GoesN.zip3 (prog := X.prog) (w := X.w) (A := X.A) (elts := elts) (x1 := kk) (pos := tpos) S (Draws.list (A := X.A.in1) hh N a na its.toArray) (Draws.list (A := X.A.in1) hh (N + 1) b nb its2.toArray) (Draws.list (A := X.A.in1) hh (N + 2) c nc its3.toArray)
    have e1 := rv.length
    have e2 := rv2.length
    have e3 := rv3.length
    refine W.goes i s (fun v s₂ => ∃ x H', Inv X pins σ H' s₂ ∧ RelV x v ∧ (Itz3 X.K a b c).yld i H x H' ∧ (IsZip s₂.heap (N + 5) (N + 3) (N + 4) .none ∧ IsTupOf3 s₂.heap (N + 3) (.ref N) (.ref (N + 1)) (.ref (N + 2)) ∧ (∃ x y z, IsTupOf3 s₂.heap (N + 4) x y z) ∧ s₂.heap.IsListIter N a (i + 1) ∧ s₂.heap.IsListIter (N + 1) b (i + 1) ∧ s₂.heap.IsListIter (N + 2) c (i + 1)) ∧ ∀ b ∈ [N + 5, N + 3, N + 4, N, N + 1, N + 2], H' b = none) E
      (by simp only [List.size_toArray]; omega) ⟨hz, hTI, hTO, ⟨h1, p.isList⟩, ⟨h2, p2.isList⟩, ⟨h3, p3.isList⟩⟩ fun v h' tk Y st' hk htk => ?_
    obtain ⟨T, x, y, u, rfl, hnew, hx, hy, hu, ⟨oT, eT, cT, nT, dT⟩⟩ := Y
    obtain ⟨z1, z2, z3, ⟨z4, _⟩, ⟨z5, _⟩, ⟨z6, _⟩⟩ := st'
    have gx : xs[i]? = some xs[i] := List.getElem?_eq_getElem lx
    have gy : ys[i]? = some ys[i] := List.getElem?_eq_getElem ly
    have gz : zs[i]? = some zs[i] := List.getElem?_eq_getElem lz
    obtain ⟨v1, q1, r1⟩ := rv.get gx
    obtain ⟨v2, q2, r2⟩ := rv2.get gy
    obtain ⟨v3, q3, r3⟩ := rv3.get gz
    have ex : v1 = x := Option.some.inj (q1.symm.trans (by simpa using hx))
    have ey : v2 = y := Option.some.inj (q2.symm.trans (by simpa using hy))
    have eu : v3 = u := Option.some.inj (q3.symm.trans (by simpa using hu))
    rw [ex] at r1; rw [ey] at r2; rw [eu] at r3
    have new : ObjOk X.prog X.w (upd H T (.tup [xs[i], ys[i], zs[i]])) h' T (.tup [xs[i], ys[i], zs[i]]) :=
      ⟨by show 3 ≤ sizeLine; decide, [x, y, u], .cons r1 (.cons r2 (.cons r3 .nil)), ⟨oT, eT, cT, nT, dT⟩⟩
    have sub : ∀ q ∈ [N + 5, N + 4, N, N + 1, N + 2], q ∈ [N + 5, N + 3, N + 4, N, N + 1, N + 2] := fun q hq => by
      simp only [List.mem_cons, List.not_mem_nil, or_false] at hq ⊢
      rcases hq with h | h | h | h | h <;> simp [h]
    have I1 : Inv X pins σ (upd H T (.tup [xs[i], ys[i], zs[i]])) { s with heap := h', toks := tk } := I.turnedNew (t' := tk) (ch := [N + 5, N + 4, N, N + 1, N + 2]) hk (fun q hq => hf q (sub q hq)) hnew new
    refine ⟨.ref T, _, I1, rfl, ⟨T, _, _, _, rfl, I.hok.fresh hnew, rfl, fun l hl => by rw [I.list_inj hl hqx]; exact gx, fun l hl => by rw [I.list_inj hl hqy]; exact gy, fun l hl => by rw [I.list_inj hl hqz]; exact gz⟩, ⟨z1, z2, z3, z4, z5, z6⟩, fun q hq => ?_⟩
    have hlt : q < s.heap.objs.size := by
      obtain ⟨_, _, _, hTO⟩ := hTO
      obtain ⟨_, g1, _⟩ := h1
      obtain ⟨_, g2, _⟩ := h2
      obtain ⟨_, g3, _⟩ := h3
      rcases mem6 hq with z | z | z | z | z | z
      · rw [z]; exact Heap.lt_size hz
      · rw [z]; exact Heap.lt_size hTI
      · rw [z]; exact Heap.lt_size hTO
      · rw [z]; exact Heap.lt_size g1
      · rw [z]; exact Heap.lt_size g2
      · rw [z]; exact Heap.lt_size g3
    rw [upd_ne (Nat.ne_of_lt (Nat.lt_of_lt_of_le hlt hnew))]
    exact (hf q hq).1
  · intro X hP hw hK hc i pins s σ H E I hf st hg
    subst hP hw hK
    obtain ⟨hz, hTI, hTO, h1, h2, h3⟩ := st
    obtain ⟨xs, ys, zs, hqx, hqy, hqz, hi⟩ := hg
    obtain ⟨its, rv, p, _⟩ := I.list hqx
    obtain ⟨its2, rv2, p2, _⟩ := I.list hqy
    obtain ⟨its3, rv3, p3, _⟩ := I.list hqz
    have hh := I.ok.hd hc
    have W := GoesN.zip3 (prog := X.prog) (w := X.w) (A := X.A) (elts := elts) (x1 := kk) (pos := tpos) S (Draws.list (A := X.A.in1) hh N a na its.toArray) (Draws.list (A := X.A.in1) hh (N + 1) b nb its2.toArray) (Draws.list (A := X.A.in1) hh (N + 2) c nc its3.toArray)
    have e : i = min (min its.toArray.size its2.toArray.size) its3.toArray.size := by
      rw [hi, List.size_toArray, List.size_toArray, List.size_toArray, rv.length, rv2.length, rv3.length]
    subst e
    have sub : ∀ q ∈ [N + 5, N + 4, N, N + 1, N + 2], q ∈ [N + 5, N + 3, N + 4, N, N + 1, N + 2] := fun q hq => by
      simp only [List.mem_cons, List.not_mem_nil, or_false] at hq ⊢
      rcases hq with h | h | h | h | h <;> simp [h]
    exact W.stops s (fun s1 => Inv X pins σ H s1) E ⟨hz, hTI, hTO, ⟨h1, p.isList⟩, ⟨h2, p2.isList⟩, ⟨h3, p3.isList⟩⟩ fun h' tk hk _ => I.turnedL (t' := tk) (ch := [N + 5, N + 4, N, N + 1, N + 2]) hk fun q hq => hf q (sub q hq)
def iZip3 (K : PySem.W.Frag) (ta : TA) : TI := fun σ H R => ta σ H fun vs H1 => ∃ a b c xs ys zs, vs = [.ref a, .ref b, .ref c] ∧ SqL K H1 a xs ∧ SqL K H1 b ys ∧ SqL K H1 c zs ∧ R (Itz3 K a b c) H1
theorem pi_zip3 {X : Cx} {e e2 e3 : Expr} {ta : TA} {p pos tpos : Pos} {elts : List Expr} {kk : Nat} (hm : X.mg "zip" = none) (ha : PA X [e, e2, e3] ta) (hg : X.env.kindOf "zip" = some .globalImplicit := by kernel_rfl)
    (hs : starEach [e, e2, e3] X.env = (false, eval e X.env) :: starEach [e2, e3] X.env := by kernel_rfl) (hpl : (backTo pos (starEach [e2, e3] X.env)).any (·.1) = false := by kernel_rfl) :
    PI X (.Tuple elts kk tpos) (.Call (.Name "zip" p) [e, e2, e3] [] pos) (iZip3 X.K ta) := by
  refine ⟨fun pins s σ H R I h => ?_⟩
  refine Call_ (ld_blt I hg hm PyProof.Rows.boot_zip (PyProof.Rows.callWith_type1 (thn (ha.run pos pins s σ H _ I h) fun us s1 ⟨vs, H1, I1, r1, q1⟩ => ?_) hs hpl))
  obtain ⟨a, b, c, xs, ys, zs, ex, hqx, hqy, hqz, q⟩ := q1
  subst ex
  cases r1 with
  | cons r rr =>
    cases rr with
    | cons r' rr =>
      cases rr with
      | cons r'' rr =>
        cases rr
        cases r
        cases r'
        cases r''
        obtain ⟨its, rv, p1, _⟩ := I1.list hqx
        obtain ⟨its2, rv2, p2, _⟩ := I1.list hqy
        obtain ⟨its3, rv3, p3, _⟩ := I1.list hqz
        refine zip_begins3 (begins_list a its.toArray) (begins_list b its2.toArray) (begins_list c its3.toArray) p1.isList p2.isList p3.isList fun h' hz hTI hTO h1 h2 h3 hsz hk => wpAny_pyIter_zip hz ?_
        have I2 : Inv X pins σ H1 { s1 with heap := h' } := I1.kept (t' := s1.toks) hk
        refine ⟨s1.heap.objs.size + 5, _, _, _, H1, rfl, I2, turn_zip3 (N := s1.heap.objs.size) p1.lt p2.lt p3.lt, ⟨hz, hTI, ⟨_, _, _, hTO⟩, ⟨_, h1, rfl, rfl⟩, ⟨_, h2, rfl, rfl⟩, ⟨_, h3, rfl, rfl⟩⟩, fun q hq => ?_, q⟩
        have hle : s1.heap.objs.size ≤ q := by
          have e' : q = s1.heap.objs.size + 5 ∨ q = s1.heap.objs.size + 3 ∨ q = s1.heap.objs.size + 4 ∨ q = s1.heap.objs.size ∨ q = s1.heap.objs.size + 1 ∨ q = s1.heap.objs.size + 2 := by simpa using hq
          rcases e' with z | z | z | z | z | z <;> rw [z]
          · exact Nat.le_add_right _ _
          · exact Nat.le_add_right _ _
          · exact Nat.le_add_right _ _
          · exact Nat.le_refl _
          · exact Nat.le_add_right _ _
          · exact Nat.le_add_right _ _
        exact I1.fpOk hle (I1.hok.fresh hle)
end Fw

/-! enumerate of a tuple. -/
namespace Fw
open PySem PySem.Spec L2
open PyProof.Rows
theorem meets_enum1 {v : Value} {o : Obj} {H : Heap → Prop} (B : Begins v o H) :
    Meets (Builtin.«enumerate.__new__» ⟨[.type "enumerate", v], []⟩) (fun _ R s => H s.heap ∧
      R (.ok (.ret (.ref (s.heap.push o).objs.size))) { s with heap := (s.heap.push o).push { cls := .type "enumerate", data := .fields #[.none, .bool false, .ref s.heap.objs.size, rawInt 0, .none, .none] } }) :=
  .of_wp fun prog w A R s h => by
    obtain ⟨hp, g, d, tk, os⟩ := s; obtain ⟨h1, h⟩ := h
    have hsub := sub_enumerate
    have q1 : ∀ {A' : Around} {E : Value → Shared → Prop} {Q : Value → Shared → Prop}, Q (.ref hp.objs.size) ⟨hp.push o, g, d, tk, os⟩ → wpAny (model prog w) A' (pyIter v) Q E ⟨hp, g, d, tk, os⟩ :=
      fun q => B.iter prog w _ _ ⟨hp, g, d, tk, os⟩ _ h1 q
    wp_walk using q1
    refine wpAny_stack_any fun st => wpAny_pure ?_
    split
    · rename_i c _ _ _ _ _
      cases (c == Value.type "enumerate")
      · wp_walk using q1
        exact ⟨_, rfl, h⟩
      · wp_walk using q1
        exact ⟨_, rfl, h⟩
    · wp_walk using q1
      exact ⟨_, rfl, h⟩
theorem enum1_begins {prog : Program} {w : World} {A : Around} {E : Value → Shared → Prop} {s : Shared} {v : Value} {o : Obj} {H : Heap → Prop} {Q : Value → Shared → Prop} (B : Begins v o H) (h1 : H s.heap)
    (h : ∀ h', IsEnum h' (s.heap.objs.size + 1) s.heap.objs.size 0 .none → h'.get? s.heap.objs.size = some o → (∀ b o, s.heap.get? b = some o → h'.get? b = some o) → Q (.ref (s.heap.objs.size + 1)) { s with heap := h' }) :
    wpAny (model prog w) A (call (.type "enumerate") [v]) Q E s := by
  refine callType_new F.called_enumerate (by decide) (F.typeCall_enumerate_1 _) (F.newCall_enumerate_1 _) (fun obj => F.args_object_init_2 obj _) F.entry_enumerate_new (meets_enum1 B) ⟨h1, ?_⟩
  have hz : (s.heap.push o).objs.size = s.heap.objs.size + 1 := Heap.size_push ..
  show _ ∧ _
  rw [hz]
  have he : IsEnum ((s.heap.push o).push { cls := .type "enumerate", data := .fields #[.none, .bool false, .ref s.heap.objs.size, rawInt 0, .none, .none] }) (s.heap.objs.size + 1) s.heap.objs.size 0 .none := by
    have := Heap.get?_push_size (s.heap.push o) (o := { cls := .type "enumerate", data := .fields #[.none, .bool false, .ref s.heap.objs.size, rawInt 0, .none, .none] }) rfl
    rw [hz] at this; exact this
  refine ⟨⟨_, he, rfl⟩, h _ he (Heap.get?_push_of_some _ (Heap.get?_push_size _ B.free)) fun b o x => Heap.get?_push_of_some _ (Heap.get?_push_of_some _ x)⟩
def IteT (K : PySem.W.Frag) (a : Addr) : It :=
  ⟨fun i H => ∃ xs : List V, SqT K H a xs ∧ i < xs.length, fun i H v H' => ∃ T x, v = .ref T ∧ H T = none ∧ H' = upd H T (.tup [.int (i : Nat), x]) ∧ ∀ xs, SqT K H a xs → xs[i]? = some x, fun i H => ∃ xs : List V, SqT K H a xs ∧ i = xs.length⟩
theorem turn_enumT {P : Program} {w : World} {K : PySem.W.Frag} {elts : List Expr} {kk : Nat} {tpos : Pos} {a N : Addr} (ha : a < N) :
    Turn P w K (.Tuple elts kk tpos) (IteT K a) [N + 1, N] (N + 1) (fun i h => (∃ old, IsEnum h (N + 1) N ((0 : Int) + ((i : Nat) : Int)) old) ∧ h.IsTupleIter N a i) := by
  have na : a ≠ N := Nat.ne_of_lt ha
  have ne : N + 1 ≠ N := Nat.succ_ne_self N
  have nf : N + 1 ∉ N :: [a] := fun hm => by
    rcases List.mem_cons.mp hm with e | hm
    · exact ne e
    · exact Nat.ne_of_gt (Nat.lt_succ_of_lt ha) (List.mem_singleton.mp hm)
  have mem2 : ∀ {x : Addr}, x ∈ [N + 1, N] → x = N + 1 ∨ x = N := fun {x} h => by simpa using h
  refine ⟨by simp, fun i h st x hx => ?_, fun i h h' st k => ?_, ?_, ?_, fun A i s Q E st h => ?_⟩
  · obtain ⟨⟨old, he⟩, ⟨o1, e1, _, d1⟩⟩ := st
    rcases mem2 hx with q | q
    · rw [q]; exact ⟨_, he, fun v q => nomatch q⟩
    · rw [q]; exact ⟨o1, e1, fun v q => by rw [d1] at q; cases q⟩
  · obtain ⟨⟨old, he⟩, h1⟩ := st
    exact ⟨⟨old, k _ (by simp) _ he⟩, h1.at fun o q => k N (by simp) o q⟩
  · intro X hP hw hK hc i pins s σ H E I hf st hg
    subst hP hw hK
    obtain ⟨he, h1⟩ := st
    obtain ⟨xs, hqx, lx⟩ := hg
    obtain ⟨its, rv, p, _⟩ := I.tuple hqx
    have hh := I.ok.hd hc
    have W := GoesN.enumFrom (prog := X.prog) (w := X.w) (A := X.A) (elts := elts) (x1 := kk) (pos := tpos) 0 (Draws.tuple (A := X.A.in1) hh N a na its.toArray) (N + 1) ne nf (by simp)
    have e1 := rv.length
    refine W.goes i s (fun v s₂ => ∃ x H', Inv X pins σ H' s₂ ∧ RelV x v ∧ (IteT X.K a).yld i H x H' ∧ ((∃ old, IsEnum s₂.heap (N + 1) N ((0 : Int) + ((i + 1 : Nat) : Int)) old) ∧ s₂.heap.IsTupleIter N a (i + 1)) ∧ ∀ b ∈ [N + 1, N], H' b = none) E
      (by simp only [List.size_toArray]; omega) ⟨he, h1, p⟩ fun v h' tk Y st' hk htk => ?_
    obtain ⟨T, t, x, rfl, hnew, hx, ⟨oT, eT, cT, nT, dT⟩⟩ := Y
    obtain ⟨z1, z2, _⟩ := st'
    have gx : xs[i]? = some xs[i] := List.getElem?_eq_getElem lx
    obtain ⟨v1, q1, r1⟩ := rv.get gx
    have ex : v1 = x := Option.some.inj (q1.symm.trans (by simpa using hx))
    rw [ex] at r1
    have e0 : (0 : Int) + (i : Int) = (i : Int) := by omega
    rw [e0] at dT
    have new : ObjOk X.prog X.w (upd H T (.tup [.int (i : Nat), xs[i]])) h' T (.tup [.int (i : Nat), xs[i]]) :=
      ⟨by show 2 ≤ sizeLine; decide, [.int i t, x], .cons ⟨_, rfl⟩ (.cons r1 .nil), ⟨oT, eT, cT, nT, dT⟩⟩
    have I1 : Inv X pins σ (upd H T (.tup [.int (i : Nat), xs[i]])) { s with heap := h', toks := tk } := I.turnedNew (t' := tk) (ch := [N + 1, N]) hk hf hnew new
    refine ⟨.ref T, _, I1, rfl, ⟨T, _, rfl, I.hok.fresh hnew, rfl, fun l hl => by rw [I.tuple_inj hl hqx]; exact gx⟩, ⟨z1, z2⟩, fun q hq => ?_⟩
    have hlt : q < s.heap.objs.size := by
      obtain ⟨_, he⟩ := he
      obtain ⟨_, g1, _⟩ := h1
      rcases mem2 hq with z | z
      · rw [z]; exact Heap.lt_size he
      · rw [z]; exact Heap.lt_size g1
    rw [upd_ne (Nat.ne_of_lt (Nat.lt_of_lt_of_le hlt hnew))]
    exact (hf q hq).1
  · intro X hP hw hK hc i pins s σ H E I hf st hg
    subst hP hw hK
    obtain ⟨he, h1⟩ := st
    obtain ⟨xs, hqx, hi⟩ := hg
    obtain ⟨its, rv, p, _⟩ := I.tuple hqx
    have hh := I.ok.hd hc
    have W := GoesN.enumFrom (prog := X.prog) (w := X.w) (A := X.A) (elts := elts) (x1 := kk) (pos := tpos) 0 (Draws.tuple (A := X.A.in1) hh N a na its.toArray) (N + 1) ne nf (by simp)
    have e : i = its.toArray.size := by rw [hi, List.size_toArray, rv.length]
    subst e
    exact W.stops s (fun s1 => Inv X pins σ H s1) E ⟨he, h1, p⟩ fun h' tk hk _ => I.turnedL (t' := tk) (ch := [N + 1, N]) hk hf
  · obtain ⟨⟨_, he⟩, _⟩ := st
    exact wpAny_pyIter_enum he h
def iEnumT (K : PySem.W.Frag) (ta : TA) : TI := fun σ H R => ta σ H fun vs H1 => ∃ a xs, vs = [.ref a] ∧ SqT K H1 a xs ∧ R (IteT K a) H1
theorem pi_enumT {X : Cx} {e : Expr} {ta : TA} {p pos tpos : Pos} {elts : List Expr} {kk : Nat} (hm : X.mg "enumerate" = none) (ha : PA X [e] ta) (hg : X.env.kindOf "enumerate" = some .globalImplicit := by kernel_rfl) (hs : starEach [e] X.env = [(false, eval e X.env)] := by kernel_rfl) :
    PI X (.Tuple elts kk tpos) (.Call (.Name "enumerate" p) [e] [] pos) (iEnumT X.K ta) := by
  refine ⟨fun pins s σ H R I h => ?_⟩
  refine Call_ (ld_blt I hg hm boot_enumerate (PyProof.Rows.callWith_type1 (thn (ha.run pos pins s σ H _ I h) fun us s1 ⟨vs, H1, I1, r1, q1⟩ => ?_) hs rfl))
  obtain ⟨a, xs, ex, hq, q⟩ := q1
  subst ex
  cases r1 with
  | cons r rr =>
    cases rr
    cases r
    obtain ⟨its, rv, p', hz⟩ := I1.tuple hq
    have la : a < s1.heap.objs.size := by
      obtain ⟨_, e, _⟩ := p'
      exact Heap.lt_size e
    refine enum1_begins (begins_tuple a its.toArray) p' fun h' he h1 hk => wpAny_pyIter_enum he ?_
    have I2 : Inv X pins σ H1 { s1 with heap := h' } := I1.kept (t' := s1.toks) hk
    refine ⟨s1.heap.objs.size + 1, _, _, _, H1, rfl, I2, turn_enumT (N := s1.heap.objs.size) la, ⟨⟨.none, he⟩, ⟨_, h1, rfl, rfl⟩⟩, fun b hb => ?_, q⟩
    have e' : b = s1.heap.objs.size + 1 ∨ b = s1.heap.objs.size := by simpa using hb
    have hle : s1.heap.objs.size ≤ b := by
      rcases e' with z | z
      · rw [z]; exact Nat.le_add_right _ _
      · rw [z]; exact Nat.le_refl _
    exact I1.fpOk hle (I1.hok.fresh hle)
end Fw

/-! The frame: worlds that change; walks that look at what may be written. -/
namespace Fw
open PySem L2
open PyProof.Rows (envOfC)
section
variable {K : PySem.W.Frag} {W W' : Wd} {ms : List Addr} {B : Bs} {H H' : Hp} {ρ ρ' : List Sl} {σ σ' : L2.St} {d : PyData} {ds es fs : List PyData} {s : Sl} {v : V} {l : Addr} {i : Nat}
  {ta tb tc te tl : TE} {wi : TI} {g : TG} {D : Ends} {ts tz : TS}
/-- the same place, another world over the same places -/
theorem At.world (h : At K W ms B ρ σ H) (e : W'.ws = W.ws) (p : W'.P H) (c : W'.C (cut ms H)) : At K W' ms B ρ σ H := ⟨by rw [e]; exact h.sub, h.live, h.env, p, by rw [e]; exact h.xw, h.st, c⟩
/-- what the world lets be written is written -/
theorem At.putW (h : At K W ms B ρ σ H) {o : HO} (hl : l ∈ W.ws) (e : W'.ws = W.ws) (p : W'.P (upd H l o)) (c : W'.C (cut ms (upd H l o))) : At K W' ms B ρ σ (upd H l o) := by
  have hm : l ∈ ms := h.sub l hl
  refine ⟨by rw [e]; exact h.sub, h.live.upd, h.env.mono (cut_put (.inl hm)), p, ?_, h.st.trans (cut_put (.inl hm)), c⟩
  rw [e]
  intro b u n q
  rw [upd_ne (fun z => by subst z; exact n hl)]
  exact h.xw b u n q
def StreamP (K : PySem.W.Frag) (W : Wd) (J : It) (ms : List Addr) (H' : Hp) (ds : List PyData) : Prop :=
  ∃ (G : Hp → Prop) (Y : Nat → Hp → V → Hp → Prop), Walk J ds.length G Y ∧ ∀ H2 : Hp, Same (cut ms H') (cut ms H2) → W.P H2 → G H2 ∧
    ∀ (i : Nat) (x : V) (H3 : Hp), Live ms H2 → Y i H2 x H3 → Same H2 H3 ∧ ∀ d, ds[i]? = some d → Dp K (cut ms H3) x d
def SrcP (K : PySem.W.Frag) (W : Wd) (wi : TI) (ρ : List Sl) (ds : List PyData) : Prop :=
  ∀ (ms : List Addr) (B : Bs) (σ : L2.St) (H : Hp), At K W ms B ρ σ H → ∀ R : It → Hp → Prop, (∀ J H', At K W ms B ρ σ H' → XW W.ws H H' → StreamP K W J ms H' ds → R J H') → wi σ H R
theorem SrcP.of (h : Src K W wi ρ ds) : SrcP K W wi ρ ds := fun ms B σ H a R q => h ms B σ H a R fun J H' a' x' ⟨G, Y, wk, st⟩ => q J H' a' x' ⟨G, Y, wk, fun H2 s _ => st ms H2 s⟩
/-- the for; the source may look at what the world says -/
theorem s_forP {R S : Nat → List Sl} (h : At K W ms B ρ σ H) (sr : SrcP K W wi ρ ds) (l0 : Le (R 0) ρ)
    (tg : ∀ i d, ds[i]? = some d → ∃ js, Tg K W g js d (R i) (S i))
    (hs : ∀ Hb i d σ' H', ds[i]? = some d → At K W ms ⟨B.h0, Hb⟩ (S i) σ' H' → ts { D with nx := fun σ H => At K W ms ⟨B.h0, Hb⟩ (R (i + 1)) σ H, ct := fun σ H => At K W ms ⟨B.h0, Hb⟩ (R (i + 1)) σ H, bk := D.nx } σ' H')
    (hd : ∀ σ' H', At K W ms B (R ds.length) σ' H' → D.nx σ' H') : tFor wi g ts D σ H := sr ms B σ H h _ fun J H1 h1 x1 stm => by
  obtain ⟨G, Y, wk, st⟩ := stm
  refine for_it wk (fun i σ H => At K W ms ⟨B.h0, H1⟩ (R i) σ H) (h1.re.le l0) (fun i σ H _ p => (st H p.st p.p).1) (fun i x σ H H' hi p y => ?_) fun σ H p => hd σ H (h1.un p)
  obtain ⟨s, hdt⟩ := (st H p.st p.p).2 i x H' p.live y
  have hx : ds[i]? = some ds[i] := List.getElem?_eq_getElem hi
  obtain ⟨js, tj⟩ := tg i _ hx
  exact tj ms _ σ H' x (p.same s) (hdt _ hx) _ fun σ2 h2 _ => hs H1 i _ σ2 H' hx h2
theorem q_forP {R S : Nat → List Sl} (h : At K W ms B ρ σ H) (sr : SrcP K W wi ρ ds) (l0 : Le (R 0) ρ)
    (tg : ∀ i d, ds[i]? = some d → ∃ js, Tg K W g js d (R i) (S i))
    (hs : ∀ Hb i d σ' H', ds[i]? = some d → At K W ms ⟨B.h0, Hb⟩ (S i) σ' H' → ts { D with nx := fun σ H => At K W ms ⟨B.h0, Hb⟩ (R (i + 1)) σ H, ct := fun σ H => At K W ms ⟨B.h0, Hb⟩ (R (i + 1)) σ H, bk := tz D } σ' H')
    (hd : ∀ σ' H', At K W ms B (R ds.length) σ' H' → tz D σ' H') : tSeq (tFor wi g ts) tz D σ H := s_forP (D := { D with nx := tz D }) h sr l0 tg hs hd
/-- .. with something said of the heap -/
theorem s_forPX {R S : Nat → List Sl} {X : Nat → Hp → Prop} (h : At K W ms B ρ σ H) (sr : SrcP K W wi ρ ds) (l0 : Le (R 0) ρ) (x0 : ∀ H1, At K W ms B ρ σ H1 → XW W.ws H H1 → X 0 H1)
    (tg : ∀ i d, ds[i]? = some d → ∃ js, Tg K W g js d (R i) (S i))
    (hs : ∀ Hb i d σ' H', ds[i]? = some d → At K W ms ⟨B.h0, Hb⟩ (S i) σ' H' → X i H' → ts { D with nx := fun σ H => At K W ms ⟨B.h0, Hb⟩ (R (i + 1)) σ H ∧ X (i + 1) H, ct := fun σ H => At K W ms ⟨B.h0, Hb⟩ (R (i + 1)) σ H ∧ X (i + 1) H, bk := D.nx } σ' H')
    (hd : ∀ σ' H', At K W ms B (R ds.length) σ' H' → X ds.length H' → D.nx σ' H') (xs : ∀ i H H', Same H H' → Live ms H → X i H → X i H') : tFor wi g ts D σ H := sr ms B σ H h _ fun J H1 h1 x1 stm => by
  obtain ⟨G, Y, wk, st⟩ := stm
  refine for_it wk (fun i σ H => At K W ms ⟨B.h0, H1⟩ (R i) σ H ∧ X i H) ⟨h1.re.le l0, x0 H1 h1 x1⟩ (fun i σ H _ p => (st H p.1.st p.1.p).1) (fun i x σ H H' hi p y => ?_) fun σ H p => hd σ H (h1.un p.1) p.2
  obtain ⟨s, hdt⟩ := (st H p.1.st p.1.p).2 i x H' p.1.live y
  have hx : ds[i]? = some ds[i] := List.getElem?_eq_getElem hi
  obtain ⟨js, tj⟩ := tg i _ hx
  exact tj ms _ σ H' x (p.1.same s) (hdt _ hx) _ fun σ2 h2 _ => hs H1 i _ σ2 H' hx h2 (xs i H H' s p.1.live p.2)
theorem q_forPX {R S : Nat → List Sl} {X : Nat → Hp → Prop} (h : At K W ms B ρ σ H) (sr : SrcP K W wi ρ ds) (l0 : Le (R 0) ρ) (x0 : ∀ H1, At K W ms B ρ σ H1 → XW W.ws H H1 → X 0 H1)
    (tg : ∀ i d, ds[i]? = some d → ∃ js, Tg K W g js d (R i) (S i))
    (hs : ∀ Hb i d σ' H', ds[i]? = some d → At K W ms ⟨B.h0, Hb⟩ (S i) σ' H' → X i H' → ts { D with nx := fun σ H => At K W ms ⟨B.h0, Hb⟩ (R (i + 1)) σ H ∧ X (i + 1) H, ct := fun σ H => At K W ms ⟨B.h0, Hb⟩ (R (i + 1)) σ H ∧ X (i + 1) H, bk := tz D } σ' H')
    (hd : ∀ σ' H', At K W ms B (R ds.length) σ' H' → X ds.length H' → tz D σ' H') (xs : ∀ i H H', Same H H' → Live ms H → X i H → X i H') : tSeq (tFor wi g ts) tz D σ H := s_forPX (D := { D with nx := tz D }) h sr l0 x0 tg hs hd xs
/-- the for; the world changes from turn to turn -/
theorem s_forW {α : Type} {Wf : α → Wd} {Φ : Nat → α → Prop} {R S : Nat → List Sl} (p0 : α) (φ0 : Φ 0 p0) (h : At K (Wf p0) ms B ρ σ H) (sr : Src K (Wf p0) wi ρ ds) (l0 : Le (R 0) ρ)
    (tg : ∀ i p d, ds[i]? = some d → ∃ js, Tg K (Wf p) g js d (R i) (S i))
    (hs : ∀ Hb i p d σ' H', ds[i]? = some d → Φ i p → At K (Wf p) ms ⟨B.h0, Hb⟩ (S i) σ' H' → ts { D with nx := fun σ H => ∃ p', Φ (i + 1) p' ∧ At K (Wf p') ms ⟨B.h0, Hb⟩ (R (i + 1)) σ H, ct := fun σ H => ∃ p', Φ (i + 1) p' ∧ At K (Wf p') ms ⟨B.h0, Hb⟩ (R (i + 1)) σ H, bk := D.nx } σ' H')
    (hd : ∀ p σ' H', Φ ds.length p → At K (Wf p) ms B (R ds.length) σ' H' → D.nx σ' H') : tFor wi g ts D σ H := sr ms B σ H h _ fun J H1 h1 x1 stm => by
  obtain ⟨G, Y, wk, st⟩ := stm
  refine for_it wk (fun i σ H => ∃ p, Φ i p ∧ At K (Wf p) ms ⟨B.h0, H1⟩ (R i) σ H) ⟨p0, φ0, h1.re.le l0⟩ (fun i σ H _ ⟨p, _, a⟩ => (st ms H a.st).1) (fun i x σ H H' hi ⟨p, φ, a⟩ y => ?_) fun σ H ⟨p, φ, a⟩ => hd p σ H φ ⟨a.sub, a.live, a.env, a.p, a.xw, h1.st.trans a.st, a.c⟩
  obtain ⟨s, hdt⟩ := (st ms H a.st).2 i x H' a.live y
  have hx : ds[i]? = some ds[i] := List.getElem?_eq_getElem hi
  obtain ⟨js, tj⟩ := tg i p _ hx
  exact tj ms _ σ H' x (a.same s) (hdt _ hx) _ fun σ2 h2 _ => hs H1 i p _ σ2 H' hx φ h2
/-! enumerate -/
def enumD (ds : List PyData) : List PyData := List.zipWith (fun (i : Nat) d => PyData.tuple [.int (i : Nat), d]) (List.range ds.length) ds
theorem enumD_get {i : Nat} (h : (enumD ds)[i]? = some d) : ∃ x, ds[i]? = some x ∧ d = .tuple [.int (i : Nat), x] := by
  unfold enumD at h
  rw [List.getElem?_zipWith] at h
  cases e1 : (List.range ds.length)[i]? with
  | none => rw [e1] at h; cases h
  | some j =>
    obtain ⟨hl, e⟩ := List.getElem?_eq_some_iff.mp e1
    rw [List.getElem_range] at e
    subst e
    rw [e1] at h
    cases e2 : ds[i]? with
    | none => rw [e2] at h; cases h
    | some x =>
      rw [e2] at h
      cases h
      exact ⟨x, rfl, rfl⟩
theorem enumD_len : (enumD ds).length = ds.length := by
  unfold enumD
  rw [List.length_zipWith, List.length_range]
  exact Nat.min_self _
theorem enum_item {ms : List Addr} {H2 : Hp} {T : Addr} {w : V} {i : Nat} (l : Live ms H2) (hT : H2 T = none) (o : ∀ d, ds[i]? = some d → Dp K (cut ms H2) w d) :
    Same H2 (upd H2 T (.tup [.int (i : Nat), w])) ∧ ∀ d, (enumD ds)[i]? = some d → Dp K (cut ms (upd H2 T (.tup [.int (i : Nat), w]))) (.ref T) d := by
  refine ⟨same_put hT, fun d hd => ?_⟩
  obtain ⟨y, ey, rfl⟩ := enumD_get hd
  exact Sl.new_tup (ds := [.int (i : Nat), y]) l hT (.cons (.int _) (.cons (o y ey) .nil))
theorem src_enumL {ta : TA} (h : EvD K W ta ρ [.list ds]) : Src K W (iEnum K ta) ρ (enumD ds) := fun ms B σ H a R q => h ms B σ H a _ fun vs H1 h1 x1 o1 => by
  cases o1 with
  | cons o1 o2 =>
    cases o2
    cases o1 with
    | @lst p xs _ hs ha =>
      refine ⟨p, xs, rfl, sql_mono cut_le hs, q _ H1 h1 x1 ⟨fun H => SqL K H p xs, YPair (fun i => some (.int (i : Nat))) (fun i => xs[i]?), by rw [enumD_len, ← dpa_len ha]; exact walk_enum, fun ms' H2 s => ⟨sql_mono (s.trans cut_le) hs, fun i x H3 l y => ?_⟩⟩⟩
      obtain ⟨T, a, b, rfl, hT, rfl, e1, e2⟩ := y
      cases e1
      exact enum_item l hT fun d hd => by
        obtain ⟨d', e', o⟩ := dpa_get ha e2
        rw [hd] at e'
        cases e'
        exact dp_mono s _ _ o
def YEnT (xs : List V) : Nat → Hp → V → Hp → Prop := fun i H v H' => ∃ T x, v = .ref T ∧ H T = none ∧ H' = upd H T (.tup [.int (i : Nat), x]) ∧ xs[i]? = some x
theorem walk_enumT {a : Addr} {xs : List V} : Walk (IteT K a) xs.length (fun H => SqT K H a xs) (YEnT xs) :=
  ⟨fun i H hi q => ⟨xs, q, hi⟩, fun H q => ⟨xs, q, rfl⟩, fun i H v H' hi q ⟨T, x, h1, h2, h3, h4⟩ => ⟨T, x, h1, h2, h3, h4 xs q⟩⟩
theorem src_enumT {ta : TA} (h : EvD K W ta ρ [.tuple ds]) : Src K W (iEnumT K ta) ρ (enumD ds) := fun ms B σ H a R q => h ms B σ H a _ fun vs H1 h1 x1 o1 => by
  cases o1 with
  | cons o1 o2 =>
    cases o2
    cases o1 with
    | @tup p xs _ hs ha =>
      refine ⟨p, xs, rfl, sqt_mono cut_le hs, q _ H1 h1 x1 ⟨fun H => SqT K H p xs, YEnT xs, by rw [enumD_len, ← dpa_len ha]; exact walk_enumT, fun ms' H2 s => ⟨sqt_mono (s.trans cut_le) hs, fun i x H3 l y => ?_⟩⟩⟩
      obtain ⟨T, b, rfl, hT, rfl, e2⟩ := y
      exact enum_item l hT fun d hd => by
        obtain ⟨d', e', o⟩ := dpa_get ha e2
        rw [hd] at e'
        cases e'
        exact dp_mono s _ _ o
/-! zip of three -/
def YThree (xs ys zs : List V) : Nat → Hp → V → Hp → Prop := fun i H v H' => ∃ T x y z, v = .ref T ∧ H T = none ∧ H' = upd H T (.tup [x, y, z]) ∧ xs[i]? = some x ∧ ys[i]? = some y ∧ zs[i]? = some z
theorem walk_zip3 {a b c : Addr} {xs ys zs : List V} {n : Nat} (hn : n = min (min xs.length ys.length) zs.length) : Walk (Itz3 K a b c) n (fun H => SqL K H a xs ∧ SqL K H b ys ∧ SqL K H c zs) (YThree xs ys zs) := by
  subst hn
  exact ⟨fun i H hi q => ⟨xs, ys, zs, q.1, q.2.1, q.2.2, by omega, by omega, by omega⟩, fun H q => ⟨xs, ys, zs, q.1, q.2.1, q.2.2, rfl⟩, fun i H v H' hi q ⟨T, x, y, z, h1, h2, h3, h4, h5, h6⟩ => ⟨T, x, y, z, h1, h2, h3, h4 xs q.1, h5 ys q.2.1, h6 zs q.2.2⟩⟩
end
end Fw

/-! zip of two, each a list or a tuple. -/
namespace Fw
open PySem PySem.Spec L2
open PyProof.Rows
def SqK (K : PySem.W.Frag) (k : Bool) (H : Hp) (a : Addr) (xs : List V) : Prop := if k then SqL K H a xs else SqT K H a xs
def IterK (k : Bool) (h : Heap) (it a : Addr) (i : Nat) : Prop := if k then h.IsListIter it a i else h.IsTupleIter it a i
def SeqK (k : Bool) (h : Heap) (a : Addr) (items : Array Value) : Prop := if k then h.IsList a items else h.IsTuple a items
def begO (k : Bool) (a : Addr) : Obj := if k then { cls := .type "list_iterator", data := .fields #[.ref a, .int 0 0] } else { cls := .type "tuple_iterator", data := .fields #[.ref a, .int 0 0] }
theorem begK (k : Bool) (a : Addr) (items : Array Value) : Begins (.ref a) (begO k a) fun h => SeqK k h a items := by
  cases k
  · exact begins_tuple a items
  · exact begins_list a items
theorem drawsK {prog : Program} {w : World} {A : Around} (hh : A.handled = none) (k : Bool) (it a : Addr) (ne : a ≠ it) (items : Array Value) :
    Draws prog w A it [it, a] items.size (fun i v => items[i]? = some v) (fun i h => IterK k h it a i ∧ SeqK k h a items) := by
  cases k
  · exact Draws.tuple hh it a ne items
  · exact Draws.list hh it a ne items
theorem IterK.at {k : Bool} {h h' : Heap} {it a : Addr} {i : Nat} (x : IterK k h it a i) (e : ∀ o, h.get? it = some o → h'.get? it = some o) : IterK k h' it a i := by
  cases k
  · exact Heap.IsTupleIter.at (show h.IsTupleIter it a i from x) e
  · exact Heap.IsListIter.at (show h.IsListIter it a i from x) e
theorem IterK.obj {k : Bool} {h : Heap} {it a : Addr} {i : Nat} (x : IterK k h it a i) : ∃ o, h.get? it = some o ∧ ∀ v, o.data ≠ .cell v := by
  cases k
  · obtain ⟨o, e, _, d⟩ := (show h.IsTupleIter it a i from x)
    exact ⟨o, e, fun v q => by rw [d] at q; cases q⟩
  · obtain ⟨o, e, _, d⟩ := (show h.IsListIter it a i from x)
    exact ⟨o, e, fun v q => by rw [d] at q; cases q⟩
theorem iterK0 {k : Bool} {h : Heap} {it a : Addr} (e : h.get? it = some (begO k a)) : IterK k h it a 0 := by
  cases k
  · exact ⟨_, e, rfl, rfl⟩
  · exact ⟨_, e, rfl, rfl⟩
theorem sqK_inv {X : Cx} {pins : List (Addr × Obj)} {σ : L2.St} {H : Hp} {s : Shared} {k : Bool} {a : Addr} {xs : List V} (I : Inv X pins σ H s) (q : SqK X.K k H a xs) : ∃ its, Vals xs its ∧ SeqK k s.heap a its.toArray ∧ a < s.heap.objs.size := by
  cases k
  · obtain ⟨its, r, p, _⟩ := I.tuple (show SqT X.K H a xs from q)
    refine ⟨its, r, p, ?_⟩
    obtain ⟨_, e, _⟩ := p
    exact Heap.lt_size e
  · obtain ⟨its, r, p, _⟩ := I.list (show SqL X.K H a xs from q)
    exact ⟨its, r, p.isList, p.lt⟩
theorem sqK_inj {X : Cx} {pins : List (Addr × Obj)} {σ : L2.St} {H : Hp} {s : Shared} {k : Bool} {a : Addr} {xs ys : List V} (I : Inv X pins σ H s) (q : SqK X.K k H a xs) (q' : SqK X.K k H a ys) : xs = ys := by
  cases k
  · exact I.tuple_inj (show SqT X.K H a xs from q) q'
  · exact I.list_inj (show SqL X.K H a xs from q) q'
def ItzX (K : PySem.W.Frag) (k1 k2 : Bool) (a b : Addr) : It :=
  ⟨fun i H => ∃ (xs ys : List V), SqK K k1 H a xs ∧ SqK K k2 H b ys ∧ i < xs.length ∧ i < ys.length,
    fun i H v H' => ∃ T x y, v = .ref T ∧ H T = none ∧ H' = upd H T (.tup [x, y]) ∧ (∀ xs, SqK K k1 H a xs → xs[i]? = some x) ∧ ∀ ys, SqK K k2 H b ys → ys[i]? = some y,
    fun i H => ∃ xs ys : List V, SqK K k1 H a xs ∧ SqK K k2 H b ys ∧ i = min xs.length ys.length⟩
theorem turn_zipX {P : Program} {w : World} {K : PySem.W.Frag} {elts : List Expr} {kk : Nat} {tpos : Pos} {k1 k2 : Bool} {a b N : Addr} (ha : a < N) (hb : b < N) :
    Turn P w K (.Tuple elts kk tpos) (ItzX K k1 k2 a b) [N + 4, N + 2, N + 3, N, N + 1] (N + 4) (fun i h => IsZip h (N + 4) (N + 2) (N + 3) .none ∧ IsTupOf2 h (N + 2) (.ref N) (.ref (N + 1)) ∧ (∃ x y, IsTupOf2 h (N + 3) x y) ∧ IterK k1 h N a i ∧ IterK k2 h (N + 1) b i) := by
  have S : ZipSep2 (N + 4) (N + 2) (N + 3) N (N + 1) (N :: [a]) ((N + 1) :: [b]) := zip_sep2 (fun x q => by rw [List.mem_singleton.mp q]; exact ha) (fun x q => by rw [List.mem_singleton.mp q]; exact hb)
  have na : a ≠ N := Nat.ne_of_lt ha
  have nb : b ≠ N + 1 := Nat.ne_of_lt (Nat.lt_succ_of_lt hb)
  have mem5 : ∀ {x : Addr}, x ∈ [N + 4, N + 2, N + 3, N, N + 1] → x = N + 4 ∨ x = N + 2 ∨ x = N + 3 ∨ x = N ∨ x = N + 1 := fun {x} h => by simpa using h
  have sub : ∀ q ∈ [N + 4, N + 3, N, N + 1], q ∈ [N + 4, N + 2, N + 3, N, N + 1] := fun q hq => by
    simp only [List.mem_cons, List.not_mem_nil, or_false] at hq ⊢
    rcases hq with h | h | h | h <;> simp [h]
  refine ⟨by simp, fun i h st x hx => ?_, fun i h h' st k => ?_, ?_, ?_, fun A i s Q E st h => wpAny_pyIter_zip st.1 h⟩
  · obtain ⟨hz, hTI, ⟨_, _, hTO⟩, h1, h2⟩ := st
    rcases mem5 hx with q | q | q | q | q
    · rw [q]; exact ⟨_, hz, fun v q => nomatch q⟩
    · rw [q]; exact ⟨_, hTI, fun v q => nomatch q⟩
    · rw [q]; exact ⟨_, hTO, fun v q => nomatch q⟩
    · rw [q]; exact h1.obj
    · rw [q]; exact h2.obj
  · obtain ⟨hz, hTI, ⟨x, y, hTO⟩, h1, h2⟩ := st
    exact ⟨k _ (by simp) _ hz, k _ (by simp) _ hTI, ⟨x, y, k _ (by simp) _ hTO⟩, h1.at fun o q => k N (by simp) o q, h2.at fun o q => k (N + 1) (by simp) o q⟩
  · intro X hP hw hK hc i pins s σ H E I hf st hg
    subst hP hw hK
    obtain ⟨hz, hTI, hTO, h1, h2⟩ := st
    obtain ⟨xs, ys, hqx, hqy, lx, ly⟩ := hg
    obtain ⟨its, rv, p, _⟩ := sqK_inv I hqx
    obtain ⟨its2, rv2, p2, _⟩ := sqK_inv I hqy
    have hh := I.ok.hd hc
    have W := GoesN.zip2 (prog := X.prog) (w := X.w) (A := X.A) (elts := elts) (x1 := kk) (pos := tpos) S (drawsK (A := X.A.in1) hh k1 N a na its.toArray) (drawsK (A := X.A.in1) hh k2 (N + 1) b nb its2.toArray)
    have e1 := rv.length
    have e2 := rv2.length
    refine W.goes i s (fun v s₂ => ∃ x H', Inv X pins σ H' s₂ ∧ RelV x v ∧ (ItzX X.K k1 k2 a b).yld i H x H' ∧ (IsZip s₂.heap (N + 4) (N + 2) (N + 3) .none ∧ IsTupOf2 s₂.heap (N + 2) (.ref N) (.ref (N + 1)) ∧ (∃ x y, IsTupOf2 s₂.heap (N + 3) x y) ∧ IterK k1 s₂.heap N a (i + 1) ∧ IterK k2 s₂.heap (N + 1) b (i + 1)) ∧ ∀ b ∈ [N + 4, N + 2, N + 3, N, N + 1], H' b = none) E
      (by simp only [List.size_toArray]; omega) ⟨hz, hTI, hTO, ⟨h1, p⟩, ⟨h2, p2⟩⟩ fun v h' tk Y st' hk htk => ?_
    obtain ⟨T, x, y, rfl, hnew, hx, hy, ⟨oT, eT, cT, nT, dT⟩⟩ := Y
    obtain ⟨z1, z2, z3, ⟨z4, _⟩, ⟨z5, _⟩⟩ := st'
    have gx : xs[i]? = some xs[i] := List.getElem?_eq_getElem lx
    have gy : ys[i]? = some ys[i] := List.getElem?_eq_getElem ly
    obtain ⟨v1, q1, r1⟩ := rv.get gx
    obtain ⟨v2, q2, r2⟩ := rv2.get gy
    have ex : v1 = x := Option.some.inj (q1.symm.trans (by simpa using hx))
    have ey : v2 = y := Option.some.inj (q2.symm.trans (by simpa using hy))
    rw [ex] at r1; rw [ey] at r2
    have new : ObjOk X.prog X.w (upd H T (.tup [xs[i], ys[i]])) h' T (.tup [xs[i], ys[i]]) :=
      ⟨by show 2 ≤ sizeLine; decide, [x, y], .cons r1 (.cons r2 .nil), ⟨oT, eT, cT, nT, dT⟩⟩
    have I1 : Inv X pins σ (upd H T (.tup [xs[i], ys[i]])) { s with heap := h', toks := tk } := I.turnedNew (t' := tk) (ch := [N + 4, N + 3, N, N + 1]) hk (fun q hq => hf q (sub q hq)) hnew new
    refine ⟨.ref T, _, I1, rfl, ⟨T, _, _, rfl, I.hok.fresh hnew, rfl, fun l hl => by rw [sqK_inj I hl hqx]; exact gx, fun l hl => by rw [sqK_inj I hl hqy]; exact gy⟩, ⟨z1, z2, z3, z4, z5⟩, fun q hq => ?_⟩
    have hlt : q < s.heap.objs.size := by
      obtain ⟨_, _, hTO⟩ := hTO
      obtain ⟨_, g1, _⟩ := h1.obj
      obtain ⟨_, g2, _⟩ := h2.obj
      rcases mem5 hq with z | z | z | z | z
      · rw [z]; exact Heap.lt_size hz
      · rw [z]; exact Heap.lt_size hTI
      · rw [z]; exact Heap.lt_size hTO
      · rw [z]; exact Heap.lt_size g1
      · rw [z]; exact Heap.lt_size g2
    rw [upd_ne (Nat.ne_of_lt (Nat.lt_of_lt_of_le hlt hnew))]
    exact (hf q hq).1
  · intro X hP hw hK hc i pins s σ H E I hf st hg
    subst hP hw hK
    obtain ⟨hz, hTI, hTO, h1, h2⟩ := st
    obtain ⟨xs, ys, hqx, hqy, hi⟩ := hg
    obtain ⟨its, rv, p, _⟩ := sqK_inv I hqx
    obtain ⟨its2, rv2, p2, _⟩ := sqK_inv I hqy
    have hh := I.ok.hd hc
    have W := GoesN.zip2 (prog := X.prog) (w := X.w) (A := X.A) (elts := elts) (x1 := kk) (pos := tpos) S (drawsK (A := X.A.in1) hh k1 N a na its.toArray) (drawsK (A := X.A.in1) hh k2 (N + 1) b nb its2.toArray)
    have e : i = min its.toArray.size its2.toArray.size := by
      rw [hi, List.size_toArray, List.size_toArray, rv.length, rv2.length]
    subst e
    exact W.stops s (fun s1 => Inv X pins σ H s1) E ⟨hz, hTI, hTO, ⟨h1, p⟩, ⟨h2, p2⟩⟩ fun h' tk hk _ => I.turnedL (t' := tk) (ch := [N + 4, N + 3, N, N + 1]) hk fun q hq => hf q (sub q hq)
def iZipX (K : PySem.W.Frag) (ta : TA) : TI := fun σ H R => ta σ H fun vs H1 => ∃ k1 k2 a b xs ys, vs = [.ref a, .ref b] ∧ SqK K k1 H1 a xs ∧ SqK K k2 H1 b ys ∧ R (ItzX K k1 k2 a b) H1
theorem pi_zipX {X : Cx} {e e2 : Expr} {ta : TA} {p pos tpos : Pos} {elts : List Expr} {kk : Nat} (hm : X.mg "zip" = none) (ha : PA X [e, e2] ta) (hg : X.env.kindOf "zip" = some .globalImplicit := by kernel_rfl)
    (hs : starEach [e, e2] X.env = (false, eval e X.env) :: starEach [e2] X.env := by kernel_rfl) (hpl : (backTo pos (starEach [e2] X.env)).any (·.1) = false := by kernel_rfl) :
    PI X (.Tuple elts kk tpos) (.Call (.Name "zip" p) [e, e2] [] pos) (iZipX X.K ta) := by
  refine ⟨fun pins s σ H R I h => ?_⟩
  refine Call_ (ld_blt I hg hm PyProof.Rows.boot_zip (PyProof.Rows.callWith_type1 (thn (ha.run pos pins s σ H _ I h) fun us s1 ⟨vs, H1, I1, r1, q1⟩ => ?_) hs hpl))
  obtain ⟨k1, k2, a, b, xs, ys, ex, hqx, hqy, q⟩ := q1
  subst ex
  cases r1 with
  | cons r rr =>
    cases rr with
    | cons r' rr =>
      cases rr
      cases r
      cases r'
      obtain ⟨its, rv, p1, la⟩ := sqK_inv I1 hqx
      obtain ⟨its2, rv2, p2, lb⟩ := sqK_inv I1 hqy
      refine zip_begins2 (begK k1 a its.toArray) (begK k2 b its2.toArray) p1 p2 fun h' hz hTI hTO h1 h2 hsz hk => wpAny_pyIter_zip hz ?_
      have I2 : Inv X pins σ H1 { s1 with heap := h' } := I1.kept (t' := s1.toks) hk
      refine ⟨s1.heap.objs.size + 4, _, _, _, H1, rfl, I2, turn_zipX (N := s1.heap.objs.size) la lb, ⟨hz, hTI, ⟨_, _, hTO⟩, iterK0 h1, iterK0 h2⟩, fun q hq => ?_, q⟩
      have hle : s1.heap.objs.size ≤ q := by
        have e' : q = s1.heap.objs.size + 4 ∨ q = s1.heap.objs.size + 2 ∨ q = s1.heap.objs.size + 3 ∨ q = s1.heap.objs.size ∨ q = s1.heap.objs.size + 1 := by simpa using hq
        rcases e' with z | z | z | z | z <;> rw [z]
        · exact Nat.le_add_right _ _
        · exact Nat.le_add_right _ _
        · exact Nat.le_add_right _ _
        · exact Nat.le_refl _
        · exact Nat.le_add_right _ _
      exact I1.fpOk hle (I1.hok.fresh hle)
section
variable {K : PySem.W.Frag} {W : Wd} {ρ : List Sl} {ta : TA} {ds es : List PyData}
theorem SqK.le {k : Bool} {H H' : Hp} {a : Addr} {xs : List V} (h : SqK K k H a xs) (s : Same H H') : SqK K k H' a xs := by
  cases k
  · exact sqt_mono s (show SqT K H a xs from h)
  · exact sql_mono s (show SqL K H a xs from h)
theorem sqK_of {b : Bool} {H : Hp} {v : V} (h : Dp K H v (sq b ds)) : ∃ p xs, v = .ref p ∧ SqK K b H p xs ∧ DpAll K H xs ds := by
  cases b
  · cases (show Dp K H v (.tuple ds) from h) with
    | tup hs ha => exact ⟨_, _, rfl, hs, ha⟩
  · cases (show Dp K H v (.list ds) from h) with
    | lst hs ha => exact ⟨_, _, rfl, hs, ha⟩
theorem walk_zipX {k1 k2 : Bool} {a b : Addr} {xs ys : List V} {n : Nat} (hn : n = min xs.length ys.length) : Walk (ItzX K k1 k2 a b) n (fun H => SqK K k1 H a xs ∧ SqK K k2 H b ys) (YPair (fun i => xs[i]?) (fun i => ys[i]?)) := by
  subst hn
  exact ⟨fun i H hi q => ⟨xs, ys, q.1, q.2, by omega, by omega⟩, fun H q => ⟨xs, ys, q.1, q.2, rfl⟩, fun i H v H' hi q ⟨T, x, y, h1, h2, h3, h4, h5⟩ => ⟨T, x, y, h1, h2, h3, h4 xs q.1, h5 ys q.2⟩⟩
theorem src_zipX {b1 b2 : Bool} (h : EvD K W ta ρ [sq b1 ds, sq b2 es]) : Src K W (iZipX K ta) ρ (List.zipWith (fun a b => PyData.tuple [a, b]) ds es) := fun ms B σ H a R q => h ms B σ H a _ fun vs H1 h1 x1 o1 => by
  cases o1 with
  | cons o1 o2 =>
    cases o2 with
    | cons o2 o3 =>
      cases o3
      obtain ⟨p1, v1, rfl, s1, d1⟩ := sqK_of o1
      obtain ⟨p2, v2, rfl, s2, d2⟩ := sqK_of o2
      refine ⟨b1, b2, p1, p2, v1, v2, rfl, s1.le cut_le, s2.le cut_le, q _ H1 h1 x1 ⟨_, _, walk_zipX (by rw [List.length_zipWith, dpa_len d1, dpa_len d2]), fun ms' H2 s => ⟨⟨s1.le (s.trans cut_le), s2.le (s.trans cut_le)⟩, fun i x H3 l y => ?_⟩⟩⟩
      exact pair_item l (dpa_mono s _ _ d1) (dpa_mono s _ _ d2) y
end
end Fw

/-! linear algebra modulo a prime: sums, spans, independence, the exchange. -/
namespace La
/-- f 0 + .. + f (n - 1) -/
def S : Nat → (Nat → Int) → Int
  | 0, _ => 0
  | n + 1, f => S n f + f n
theorem S_congr : ∀ {n : Nat} {f g : Nat → Int}, (∀ j, j < n → f j = g j) → S n f = S n g
  | 0, _, _, _ => rfl
  | n + 1, f, g, h => by rw [S, S, S_congr fun j hj => h j (by omega), h n (by omega)]
theorem S_add : ∀ (n : Nat) (f g : Nat → Int), S n (fun j => f j + g j) = S n f + S n g
  | 0, _, _ => rfl
  | n + 1, f, g => by rw [S, S, S, S_add n]; omega
theorem S_sub : ∀ (n : Nat) (f g : Nat → Int), S n (fun j => f j - g j) = S n f - S n g
  | 0, _, _ => rfl
  | n + 1, f, g => by rw [S, S, S, S_sub n]; omega
theorem S_mul (c : Int) : ∀ (n : Nat) (f : Nat → Int), S n (fun j => c * f j) = c * S n f
  | 0, _ => by simp [S]
  | n + 1, f => by rw [S, S, S_mul c n, Int.mul_add]
theorem S_mulR (c : Int) (n : Nat) (f : Nat → Int) : S n (fun j => f j * c) = S n f * c := by
  rw [Int.mul_comm, ← S_mul]
  exact S_congr fun j _ => Int.mul_comm _ _
theorem S_zero : ∀ (n : Nat), S n (fun _ => 0) = 0
  | 0 => rfl
  | n + 1 => by rw [S, S_zero n]; rfl
theorem S_swap (f : Nat → Nat → Int) : ∀ (n m : Nat), S n (fun j => S m fun k => f j k) = S m fun k => S n fun j => f j k
  | 0, m => by rw [S]; exact (S_zero m).symm
  | n + 1, m => by
    rw [S, S_swap f n m, ← S_add]
    exact S_congr fun k _ => rfl
theorem S_shift : ∀ (n : Nat) (f : Nat → Int), S (n + 1) f = f 0 + S n fun j => f (j + 1)
  | 0, f => by simp [S]
  | n + 1, f => by rw [S, S_shift n f, S]; omega
theorem S_dvd {p : Int} : ∀ {n : Nat} {f : Nat → Int}, (∀ j, j < n → p ∣ f j) → p ∣ S n f
  | 0, _, _ => ⟨0, by simp [S]⟩
  | n + 1, f, h => by rw [S]; exact Int.dvd_add (S_dvd fun j hj => h j (by omega)) (h n (by omega))
theorem S_eqm {p : Int} {n : Nat} {f g : Nat → Int} (h : ∀ j, j < n → p ∣ f j - g j) : p ∣ S n f - S n g := by
  rw [← S_sub]
  exact S_dvd h
theorem S_one {n k : Nat} (hk : k < n) (f : Nat → Int) : S n (fun j => if j = k then f j else 0) = f k := by
  induction n with
  | zero => omega
  | succ n ih =>
    rw [S]
    by_cases e : n = k
    · subst e
      rw [if_pos rfl, S_congr (g := fun _ => 0) fun j hj => if_neg (by omega), S_zero]
      omega
    · rw [ih (by omega), if_neg e]
      omega
/-- all but k -/
def skip (k j : Nat) : Nat := if j < k then j else j + 1
theorem S_skip : ∀ {n k : Nat}, k < n + 1 → ∀ f : Nat → Int, S (n + 1) f = S n (fun j => f (skip k j)) + f k
  | n, k, hk, f => by
    induction n with
    | zero =>
      obtain rfl : k = 0 := by omega
      simp [S]
    | succ n ih =>
      by_cases e : k = n + 1
      · subst e
        rw [S]
        congr 1
        exact S_congr fun j hj => by unfold skip; rw [if_pos hj]
      · rw [S, ih (by omega)]
        rw [S]
        have : skip k n = n + 1 := by unfold skip; rw [if_neg (by omega)]
        rw [this]
        omega
/-! ### the field -/
structure Fld (p : Int) : Prop where
  two : 1 < p
  inv : ∀ a : Int, ¬ p ∣ a → ∃ b : Int, p ∣ a * b - 1
theorem Fld.one {p : Int} (F : Fld p) : ¬ p ∣ 1 := fun h => by
  have := Int.le_of_dvd (by decide) h
  have := F.two
  omega
theorem eqm_mul {p a b c d : Int} (h : p ∣ a - b) (g : p ∣ c - d) : p ∣ a * c - b * d := by
  have e : a * c - b * d = (a - b) * c + b * (c - d) := by grind
  rw [e]
  exact Int.dvd_add (Int.dvd_mul_of_dvd_left h) (Int.dvd_mul_of_dvd_right g)
theorem eqm_refl {p a : Int} : p ∣ a - a := ⟨0, by omega⟩
theorem eqm_symm {p a b : Int} (h : p ∣ a - b) : p ∣ b - a := by
  obtain ⟨k, e⟩ := h
  exact ⟨-k, by rw [Int.mul_neg]; omega⟩
theorem eqm_trans {p a b c : Int} (h : p ∣ a - b) (g : p ∣ b - c) : p ∣ a - c := by
  have := Int.dvd_add h g
  rwa [show a - b + (b - c) = a - c by omega] at this
theorem eqm_add {p a b c d : Int} (h : p ∣ a - b) (g : p ∣ c - d) : p ∣ (a + c) - (b + d) := by
  have := Int.dvd_add h g
  rwa [show a - b + (c - d) = a + c - (b + d) by omega] at this
theorem eqm_sub {p a b c d : Int} (h : p ∣ a - b) (g : p ∣ c - d) : p ∣ (a - c) - (b - d) := by
  have := Int.dvd_sub h g
  rwa [show a - b - (c - d) = a - c - (b - d) by omega] at this
theorem dvd_eqm {p a b : Int} (h : p ∣ a - b) (g : p ∣ b) : p ∣ a := by
  have := Int.dvd_add h g
  rwa [show a - b + b = a by omega] at this
theorem Fld.cancel {p a b : Int} (F : Fld p) (h : p ∣ a * b) (n : ¬ p ∣ a) : p ∣ b := by
  obtain ⟨c, hc⟩ := F.inv a n
  have e : b = c * (a * b) - (a * c - 1) * b := by grind
  rw [e]
  exact Int.dvd_sub (Int.dvd_mul_of_dvd_right h) (Int.dvd_mul_of_dvd_left hc)
theorem mod_eqm (p a : Int) : p ∣ a % p - a := ⟨-(a / p), by have := Int.emod_def a p; rw [Int.mul_neg]; omega⟩
/-! ### more unknowns than equations -/
theorem more_unknowns {p : Int} (F : Fld p) : ∀ (n m : Nat) (M : Nat → Nat → Int), n < m → ∃ c : Nat → Int, (∃ j, j < m ∧ ¬ p ∣ c j) ∧ ∀ k, k < n → p ∣ S m fun j => c j * M j k
  | 0, m, M, h => ⟨fun _ => 1, ⟨0, h, F.one⟩, fun k hk => by omega⟩
  | n + 1, m, M, h => by
    by_cases all : ∀ j, j < m → p ∣ M j n
    · obtain ⟨c, h1, h2⟩ := more_unknowns F n m M (by omega)
      refine ⟨c, h1, fun k hk => ?_⟩
      by_cases e : k = n
      · subst e
        exact S_dvd fun j hj => Int.dvd_mul_of_dvd_right (all j hj)
      · exact h2 k (by omega)
    · obtain ⟨j0, hj0, nd⟩ : ∃ j, j < m ∧ ¬ p ∣ M j n := by
        apply Classical.byContradiction
        intro q
        exact all fun j hj => Classical.byContradiction fun z => q ⟨j, hj, z⟩
      obtain ⟨u, hu⟩ := F.inv _ nd
      obtain ⟨m', rfl⟩ : ∃ m', m = m' + 1 := ⟨m - 1, by omega⟩
      obtain ⟨c', ⟨j1, hj1, n1⟩, h2⟩ := more_unknowns F n m' (fun j k => M (skip j0 j) k - M (skip j0 j) n * u * M j0 k) (by omega)
      let c0 : Int := - S m' fun j => c' j * (M (skip j0 j) n * u)
      let c : Nat → Int := fun j => if j = j0 then c0 else c' (if j < j0 then j else j - 1)
      have cs : ∀ j, c (skip j0 j) = c' j := fun j => by
        show (if skip j0 j = j0 then c0 else c' (if skip j0 j < j0 then skip j0 j else skip j0 j - 1)) = c' j
        unfold skip
        by_cases q : j < j0
        · rw [if_pos q, if_neg (by omega), if_pos q]
        · rw [if_neg q, if_neg (by omega), if_neg (by omega)]
          congr 1
      have c00 : c j0 = c0 := if_pos rfl
      have split : ∀ k, (S (m' + 1) fun j => c j * M j k) = (S m' fun j => c' j * M (skip j0 j) k) + c0 * M j0 k := fun k => by
        rw [S_skip hj0, c00, S_congr fun j _ => by rw [cs j]]
      refine ⟨c, ⟨skip j0 j1, by unfold skip; split <;> omega, by rw [cs]; exact n1⟩, fun k hk => ?_⟩
      rw [split]
      by_cases e : k = n
      · subst e
        have e2 : (S m' fun j => c' j * M (skip j0 j) k) + c0 * M j0 k = - ((M j0 k * u - 1) * S m' fun j => c' j * M (skip j0 j) k) := by
          have e3 : c0 = - (u * S m' fun j => c' j * M (skip j0 j) k) := by
            show - (S m' fun j => c' j * (M (skip j0 j) k * u)) = _
            rw [← S_mul]
            congr 1
            exact S_congr fun j _ => by grind
          rw [e3]
          grind
        rw [e2]
        exact Int.dvd_neg.mpr (Int.dvd_mul_of_dvd_left hu)
      · have := h2 k (by omega)
        have e2 : (S m' fun j => c' j * (M (skip j0 j) k - M (skip j0 j) n * u * M j0 k)) = (S m' fun j => c' j * M (skip j0 j) k) + c0 * M j0 k := by
          have e3 : c0 * M j0 k = - S m' fun j => c' j * (M (skip j0 j) n * u) * M j0 k := by
            show (- S m' fun j => c' j * (M (skip j0 j) n * u)) * M j0 k = _
            rw [S_mulR, Int.neg_mul]
          rw [e3, show ∀ a b : Int, a + -b = a - b from fun a b => by omega, ← S_sub]
          exact S_congr fun j _ => by grind
        rw [← e2]
        exact this
/-! ### spans -/
/-- v is a combination of the first n of R, at the places below L -/
def InSpan (p : Int) (L n : Nat) (R : Nat → Nat → Int) (v : Nat → Int) : Prop := ∃ c : Nat → Int, ∀ i, i < L → p ∣ v i - S n fun j => c j * R j i
def Ind (p : Int) (L n : Nat) (R : Nat → Nat → Int) : Prop := ∀ c : Nat → Int, (∀ i, i < L → p ∣ S n fun j => c j * R j i) → ∀ j, j < n → p ∣ c j
section
variable {p : Int} {L n m l : Nat} {R A B : Nat → Nat → Int} {v w : Nat → Int}
theorem InSpan.mem {k : Nat} (hk : k < n) : InSpan p L n R (R k) := ⟨fun j => if j = k then 1 else 0, fun i _ => by
  rw [S_congr (g := fun j => if j = k then R j i else 0) fun j _ => by
    show (if j = k then (1 : Int) else 0) * R j i = if j = k then R j i else 0
    by_cases e : j = k
    · rw [if_pos e, if_pos e, Int.one_mul]
    · rw [if_neg e, if_neg e, Int.zero_mul], S_one hk fun j => R j i]
  exact eqm_refl⟩
theorem InSpan.eqm (h : InSpan p L n R v) (e : ∀ i, i < L → p ∣ w i - v i) : InSpan p L n R w := by
  obtain ⟨c, hc⟩ := h
  exact ⟨c, fun i hi => eqm_trans (e i hi) (hc i hi)⟩
theorem InSpan.trans (h : InSpan p L n A v) (g : ∀ j, j < n → InSpan p L m B (A j)) : InSpan p L m B v := by
  obtain ⟨c, hc⟩ := h
  have pick : ∀ j, ∃ d : Nat → Int, j < n → ∀ i, i < L → p ∣ A j i - S m fun k => d k * B k i := fun j => by
    by_cases q : j < n
    · obtain ⟨d, hd⟩ := g j q
      exact ⟨d, fun _ => hd⟩
    · exact ⟨fun _ => 0, fun z => absurd z q⟩
  obtain ⟨D, hD⟩ := Classical.axiomOfChoice pick
  refine ⟨fun k => S n fun j => c j * D j k, fun i hi => eqm_trans (hc i hi) ?_⟩
  have e : (S m fun k => (S n fun j => c j * D j k) * B k i) = S n fun j => c j * S m fun k => D j k * B k i := by
    have e1 : (S m fun k => (S n fun j => c j * D j k) * B k i) = S m fun k => S n fun j => c j * D j k * B k i := S_congr fun k _ => (S_mulR _ _ _).symm
    rw [e1, ← S_swap]
    exact S_congr fun j _ => by rw [← S_mul]; exact S_congr fun k _ => by grind
  rw [e]
  exact S_eqm fun j hj => by
    rw [← Int.mul_sub]
    exact Int.dvd_mul_of_dvd_right (hD j hj i hi)
theorem InSpan.more (h : InSpan p L n R v) (hn : n ≤ m) : InSpan p L m R v := h.trans fun j hj => InSpan.mem (by omega)
theorem InSpan.addS (h : InSpan p L n R v) (g : InSpan p L n R w) (t : Int) : InSpan p L n R (fun i => v i + t * w i) := by
  obtain ⟨c, hc⟩ := h
  obtain ⟨d, hd⟩ := g
  refine ⟨fun j => c j + t * d j, fun i hi => ?_⟩
  have e : (S n fun j => (c j + t * d j) * R j i) = (S n fun j => c j * R j i) + t * S n fun j => d j * R j i := by
    rw [← S_mul, ← S_add]
    exact S_congr fun j _ => by grind
  rw [e]
  refine eqm_add (hc i hi) ?_
  rw [← Int.mul_sub]
  exact Int.dvd_mul_of_dvd_right (hd i hi)
theorem InSpan.zero : InSpan p L n R (fun _ => 0) := ⟨fun _ => 0, fun i _ => by
  rw [S_congr (g := fun _ => 0) fun j _ => Int.zero_mul _, S_zero]
  exact eqm_refl⟩
/-- the exchange: no more independent ones than there are that span them -/
theorem steinitz (F : Fld p) (h : Ind p L m A) (g : ∀ j, j < m → InSpan p L n B (A j)) : m ≤ n := by
  apply Classical.byContradiction
  intro q
  have pick : ∀ j, ∃ d : Nat → Int, j < m → ∀ i, i < L → p ∣ A j i - S n fun k => d k * B k i := fun j => by
    by_cases q : j < m
    · obtain ⟨d, hd⟩ := g j q
      exact ⟨d, fun _ => hd⟩
    · exact ⟨fun _ => 0, fun z => absurd z q⟩
  obtain ⟨M, hM⟩ := Classical.axiomOfChoice pick
  obtain ⟨c, ⟨j0, hj0, nd⟩, hc⟩ := more_unknowns F n m M (by omega)
  refine nd (h c (fun i hi => ?_) j0 hj0)
  have e : (S m fun j => c j * S n fun k => M j k * B k i) = S n fun k => (S m fun j => c j * M j k) * B k i := by
    have e1 : (S n fun k => (S m fun j => c j * M j k) * B k i) = S n fun k => S m fun j => c j * M j k * B k i := S_congr fun k _ => (S_mulR _ _ _).symm
    rw [e1, ← S_swap]
    exact S_congr fun j _ => by rw [← S_mul]; exact S_congr fun k _ => by grind
  refine dvd_eqm (b := S m fun j => c j * S n fun k => M j k * B k i) (S_eqm fun j hj => by
    rw [← Int.mul_sub]
    exact Int.dvd_mul_of_dvd_right (hM j hj i hi)) ?_
  rw [e]
  exact S_dvd fun k hk => Int.dvd_mul_of_dvd_left (hc k hk)
/-- a vector that tells v from all of R: then v makes an independent row longer -/
theorem Ind.snoc (h : Ind p L n A) {w : Nat → Int} (hw : ∀ j, j < n → p ∣ S L fun i => A j i * w i) (hv : ¬ p ∣ S L fun i => v i * w i) (F : Fld p) : Ind p L (n + 1) (fun j => if j = n then v else A j) := by
  intro c hc
  have cn : p ∣ c n := by
    refine Classical.byContradiction fun nd => hv (F.cancel (a := c n) ?_ nd)
    have e : (S L fun i => (S (n + 1) fun j => c j * (if j = n then v else A j) i) * w i) = (S n fun j => c j * S L fun i => A j i * w i) + c n * S L fun i => v i * w i := by
      have e1 : (S L fun i => (S (n + 1) fun j => c j * (if j = n then v else A j) i) * w i) = (S L fun i => (S n fun j => c j * A j i * w i) + c n * v i * w i) := S_congr fun i _ => by
        rw [S, if_pos rfl, Int.add_mul, ← S_mulR]
        congr 1
        exact S_congr fun j hj => by rw [if_neg (by omega)]
      rw [e1, S_add, S_swap]
      congr 1
      · exact (S_congr fun j _ => by rw [← S_mul]; exact S_congr fun i _ => by grind)
      · rw [← S_mul]
        exact S_congr fun i _ => by grind
    have d1 : p ∣ S L fun i => (S (n + 1) fun j => c j * (if j = n then v else A j) i) * w i := S_dvd fun i hi => Int.dvd_mul_of_dvd_left (hc i hi)
    rw [e] at d1
    have d2 : p ∣ S n fun j => c j * S L fun i => A j i * w i := S_dvd fun j hj => Int.dvd_mul_of_dvd_right (hw j hj)
    have := Int.dvd_sub d1 d2
    rwa [show ∀ a b : Int, a + b - a = b from fun a b => by omega] at this
  have rest := h c fun i hi => by
    have := hc i hi
    rw [S] at this
    dsimp only at this
    rw [if_pos rfl, S_congr (g := fun j => c j * A j i) fun j hj => by rw [if_neg (by omega)]] at this
    have d2 : p ∣ c n * v i := Int.dvd_mul_of_dvd_left cn
    have := Int.dvd_sub this d2
    rwa [show ∀ a b : Int, a + b - b = a from fun a b => by omega] at this
  intro j hj
  by_cases e : j = n
  · rw [e]; exact cn
  · exact rest j (by omega)
end
/-- a row of n independent ones with the same span as R -/
structure Base (p : Int) (L n : Nat) (A : Nat → Nat → Int) (m : Nat) (R : Nat → Nat → Int) : Prop where
  ind : Ind p L n A
  inn : ∀ j, j < n → InSpan p L m R (A j)
  all : ∀ j, j < m → InSpan p L n A (R j)
theorem Base.same {p : Int} {L n n' m : Nat} {A A' R : Nat → Nat → Int} (F : Fld p) (a : Base p L n A m R) (b : Base p L n' A' m R) : n = n' :=
  Nat.le_antisymm (steinitz F a.ind fun j hj => (a.inn j hj).trans b.all) (steinitz F b.ind fun j hj => (b.inn j hj).trans a.all)
end La

/-! linear algebra, 2: the reduction of given rows; ranks by elimination. -/
namespace La
def ga (v : List Int) (i : Nat) : Int := v[i]?.getD 0
def fam (R : List (List Int)) (j i : Nat) : Int := ga (R[j]?.getD []) i
theorem ga_lt {v : List Int} {i : Nat} (h : i < v.length) : v[i]? = some (ga v i) := by
  unfold ga
  rw [List.getElem?_eq_getElem h]
  rfl
theorem ga_ge {v : List Int} {i : Nat} (h : v.length ≤ i) : ga v i = 0 := by
  unfold ga
  rw [List.getElem?_eq_none h]
  rfl
theorem ga_some {v : List Int} {i : Nat} {x : Int} (h : v[i]? = some x) : ga v i = x := by
  unfold ga
  rw [h]
  rfl
theorem fam_some {R : List (List Int)} {j : Nat} {r : List Int} (h : R[j]? = some r) (i : Nat) : fam R j i = ga r i := by
  unfold fam
  rw [h]
  rfl
theorem ga_zip {f : Int → Int → Int} {a b : List Int} {i : Nat} (ha : i < a.length) (hb : i < b.length) : ga (List.zipWith f a b) i = f (ga a i) (ga b i) := by
  refine ga_some ?_
  rw [List.getElem?_zipWith, ga_lt ha, ga_lt hb]
theorem ga_map {f : Int → Int} {a : List Int} {i : Nat} (ha : i < a.length) : ga (a.map f) i = f (ga a i) := by
  refine ga_some ?_
  rw [List.getElem?_map, ga_lt ha]
  rfl
theorem ga_ext {a b : List Int} (hl : a.length = b.length) (h : ∀ i, i < a.length → ga a i = ga b i) : a = b := by
  apply List.ext_getElem?
  intro i
  by_cases q : i < a.length
  · rw [ga_lt q, ga_lt (by omega), h i q]
  · rw [List.getElem?_eq_none (by omega), List.getElem?_eq_none (by omega)]
/-- residues, so many -/
structure Res (p : Int) (L : Nat) (v : List Int) : Prop where
  len : v.length = L
  bd : ∀ x ∈ v, 0 ≤ x ∧ x < p
theorem Res.at {p : Int} {L : Nat} {v : List Int} (r : Res p L v) {i : Nat} (h : i < L) : 0 ≤ ga v i ∧ ga v i < p := r.bd _ (List.mem_of_getElem? (ga_lt (by rw [r.len]; exact h)))
theorem Res.zero {p : Int} {L : Nat} {v : List Int} (r : Res p L v) {i : Nat} (h : i < L) (d : p ∣ ga v i) : ga v i = 0 := by
  obtain ⟨h0, h1⟩ := r.at h
  exact Int.eq_zero_of_dvd_of_nonneg_of_lt d h0 h1
where
  Int.eq_zero_of_dvd_of_nonneg_of_lt {a b : Int} (d : a ∣ b) (h0 : 0 ≤ b) (h1 : b < a) : b = 0 := by
    obtain ⟨k, e⟩ := d
    by_cases z : k = 0
    · rw [e, z, Int.mul_zero]
    · have : 1 ≤ k ∨ k ≤ -1 := by omega
      rcases this with q | q
      · have := Int.mul_le_mul_of_nonneg_left q (show 0 ≤ a by omega)
        omega
      · have := Int.mul_le_mul_of_nonneg_left q (show 0 ≤ a by omega)
        omega
theorem mem_ga {v : List Int} {x : Int} (h : x ∈ v) : ∃ i, i < v.length ∧ ga v i = x := by
  obtain ⟨i, e⟩ := List.mem_iff_getElem?.mp h
  exact ⟨i, (List.getElem?_eq_some_iff.mp e).1, ga_some e⟩
theorem Res.of {p : Int} {L : Nat} {v : List Int} (hl : v.length = L) (h : ∀ i, i < L → 0 ≤ ga v i ∧ ga v i < p) : Res p L v := ⟨hl, fun x hx => by
  obtain ⟨i, hi, rfl⟩ := mem_ga hx
  exact h i (by omega)⟩
/-! ### the first place that is not 0; inverses -/
def firstP : List Int → Option Nat
  | [] => none
  | x :: r => if x ≠ 0 then some 0 else (firstP r).map (· + 1)
theorem firstP_none : ∀ {v : List Int}, firstP v = none → ∀ i, ga v i = 0
  | [], _, i => by simp [ga]
  | x :: r, h, i => by
    unfold firstP at h
    by_cases c : x = 0
    · rw [if_neg (by simp [c])] at h
      have h2 : firstP r = none := by cases e : firstP r with | none => rfl | some _ => rw [e] at h; cases h
      cases i with
      | zero => simp [ga, c]
      | succ i => have := firstP_none h2 i; simpa [ga] using this
    · rw [if_pos c] at h; cases h
theorem firstP_some : ∀ {v : List Int} {k : Nat}, firstP v = some k → k < v.length ∧ ga v k ≠ 0 ∧ ∀ i, i < k → ga v i = 0
  | [], k, h => by cases h
  | x :: r, k, h => by
    unfold firstP at h
    by_cases c : x = 0
    · rw [if_neg (by simp [c])] at h
      cases e : firstP r with
      | none => rw [e] at h; cases h
      | some j =>
        rw [e] at h
        cases h
        obtain ⟨h1, h2, h3⟩ := firstP_some e
        refine ⟨by simpa using h1, by simpa [ga] using h2, fun i hi => ?_⟩
        cases i with
        | zero => simp [ga, c]
        | succ i =>
          have hi2 : i + 1 < j + 1 := hi
          have := h3 i (by omega)
          simpa [ga] using this
    · rw [if_pos c] at h
      cases h
      exact ⟨by simp, by simpa [ga] using c, fun i hi => by omega⟩
def invM (p a : Int) : Int := (((List.range p.toNat).map fun (b : Nat) => (b : Int)).find? fun b => decide (a * b % p = 1)).getD 0
/-- a prime at which inverses are found -/
structure Prm (p : Int) : Prop where
  lo : 11 ≤ p
  hi : p ≤ 97
  inv : ∀ a : Int, 0 < a → a < p → p ∣ a * invM p a - 1 ∧ 1 ≤ invM p a ∧ invM p a < p ∧ (((List.range p.toNat).map fun (b : Nat) => (b : Int)).find? fun b => decide (a * b % p = 1)) = some (invM p a)
def primesL : List Int := [11, 13, 17, 19, 23, 29, 31, 37, 41, 43, 47, 53, 59, 61, 67, 71, 73, 79, 83, 89, 97]
def invOk (p a : Int) : Bool := match ((List.range p.toNat).map fun (b : Nat) => (b : Int)).find? fun b => decide (a * b % p = 1) with
  | some b => decide (a * b % p = 1) && decide (1 ≤ b) && decide (b < p)
  | none => false
theorem primes_inv : primesL.all (fun p => (List.range p.toNat).all fun a => a == 0 || invOk p (a : Int)) = true := by decide +kernel
theorem prm_of {p : Int} (h : p ∈ primesL) : Prm p := by
  have hb : 11 ≤ p ∧ p ≤ 97 := by
    simp only [primesL, List.mem_cons, List.not_mem_nil, or_false] at h
    omega
  refine ⟨hb.1, hb.2, fun a h0 h1 => ?_⟩
  have q := List.all_eq_true.mp (List.all_eq_true.mp primes_inv p h) a.toNat (List.mem_range.mpr (by omega))
  have e : ((a.toNat : Nat) : Int) = a := Int.toNat_of_nonneg (by omega)
  rw [e] at q
  have q2 : invOk p a = true := by
    rcases Bool.or_eq_true _ _ |>.mp q with z | z
    · have : a.toNat = 0 := by simpa using z
      omega
    · exact z
  unfold invOk at q2
  unfold invM
  cases f : ((List.range p.toNat).map fun (b : Nat) => (b : Int)).find? fun b => decide (a * b % p = 1) with
  | none => rw [f] at q2; cases q2
  | some b =>
    rw [f] at q2
    simp only [Bool.and_eq_true, decide_eq_true_eq] at q2
    refine ⟨?_, q2.1.2, q2.2, rfl⟩
    show p ∣ a * b - 1
    have := Int.emod_def (a * b) p
    exact ⟨a * b / p, by omega⟩
theorem Prm.fld {p : Int} (P : Prm p) : Fld p := by
  have hlo := P.lo
  refine ⟨by omega, fun a na => ?_⟩
  have h0 : 0 ≤ a % p := Int.emod_nonneg _ (by omega)
  have h1 : a % p < p := Int.emod_lt_of_pos _ (by omega)
  have h2 : a % p ≠ 0 := fun z => na (Int.dvd_of_emod_eq_zero z)
  obtain ⟨d, _⟩ := P.inv (a % p) (by omega) h1
  refine ⟨invM p (a % p), ?_⟩
  exact eqm_trans (eqm_mul (eqm_symm (mod_eqm p a)) eqm_refl) d
/-! ### the reduction of rows -/
structure BSt where
  pv : List Nat
  rows : List (List Int)
  made : List (List Int)
  rels : List (List Int)
def addL (p : Int) (r : List Int) (t : Int) (o : List Int) : List Int := List.zipWith (fun a b => (a + t * b) % p) r o
def redStep (p : Int) (rm : List Int × List Int) (x : Nat × List Int × List Int) : List Int × List Int := (addL p rm.1 (-ga rm.1 x.1) x.2.1, addL p rm.2 (-ga rm.1 x.1) x.2.2)
def zip3 (st : BSt) : List (Nat × List Int × List Int) := st.pv.zip (st.rows.zip st.made)
def redB (p : Int) (st : BSt) (r m : List Int) : List Int × List Int := (zip3 st).foldl (redStep p) (r, m)
def scaleL (p : Int) (r : List Int) (t : Int) : List Int := r.map fun x => x * t % p
def takeB (p : Int) (st : BSt) (r m : List Int) : BSt :=
  let rm := redB p st r m
  match firstP rm.1 with
  | none => { st with rels := st.rels ++ [rm.2] }
  | some k =>
    let t := invM p (ga rm.1 k)
    let r' := scaleL p rm.1 t
    let m' := scaleL p rm.2 t
    let ts := st.rows.map fun o => -ga o k
    { pv := st.pv ++ [k], made := List.zipWith (fun one other => addL p other one m') ts st.made ++ [m'], rows := List.zipWith (fun one other => addL p other one r') ts st.rows ++ [r'], rels := st.rels }
def unitL (n k : Nat) : List Int := (List.range n).map fun i => if k = i then 1 else 0
def basisL (p : Int) (R : List (List Int)) : Nat → BSt
  | 0 => ⟨[], [], [], []⟩
  | k + 1 => takeB p (basisL p R k) (R[k]?.getD []) (unitL R.length k)
def pat (st : BSt) (j : Nat) : Nat := st.pv[j]?.getD 0
structure InvB (p : Int) (L : Nat) (R : List (List Int)) (k : Nat) (st : BSt) : Prop where
  lr : st.rows.length = st.pv.length
  lm : st.made.length = st.pv.length
  rr : ∀ r ∈ st.rows, Res p L r
  rm : ∀ r ∈ st.made, Res p R.length r
  pl : ∀ j, j < st.pv.length → pat st j < L
  dg : ∀ i j, i < st.pv.length → j < st.pv.length → p ∣ fam st.rows j (pat st i) - (if i = j then 1 else 0)
  cb : ∀ j, j < st.pv.length → ∀ i, i < L → p ∣ fam st.rows j i - S R.length fun t => fam st.made j t * fam R t i
  sp : ∀ t, t < k → InSpan p L st.pv.length (fam st.rows) (fam R t)
theorem addL_len {p : Int} {L : Nat} {r o : List Int} {t : Int} (h1 : r.length = L) (h2 : o.length = L) : (addL p r t o).length = L := by
  unfold addL
  rw [List.length_zipWith, h1, h2, Nat.min_self]
theorem addL_at {p : Int} {L : Nat} {r o : List Int} {t : Int} (h1 : r.length = L) (h2 : o.length = L) {i : Nat} (hi : i < L) : ga (addL p r t o) i = (ga r i + t * ga o i) % p := ga_zip (by omega) (by omega)
theorem addL_res {p : Int} {L : Nat} {r o : List Int} {t : Int} (hp : 0 < p) (h1 : r.length = L) (h2 : o.length = L) : Res p L (addL p r t o) := .of (addL_len h1 h2) fun i hi => by
  rw [addL_at h1 h2 hi]
  exact ⟨Int.emod_nonneg _ (by omega), Int.emod_lt_of_pos _ hp⟩
theorem addL_eqm {p : Int} {L : Nat} {r o : List Int} {t : Int} (h1 : r.length = L) (h2 : o.length = L) {i : Nat} (hi : i < L) : p ∣ ga (addL p r t o) i - (ga r i + t * ga o i) := by
  rw [addL_at h1 h2 hi]
  exact mod_eqm _ _
theorem scaleL_res {p : Int} {L : Nat} {r : List Int} {t : Int} (hp : 0 < p) (h1 : r.length = L) : Res p L (scaleL p r t) := .of (by unfold scaleL; rw [List.length_map, h1]) fun i hi => by
  unfold scaleL
  rw [ga_map (by omega)]
  exact ⟨Int.emod_nonneg _ (by omega), Int.emod_lt_of_pos _ hp⟩
theorem scaleL_eqm {p : Int} {L : Nat} {r : List Int} {t : Int} (h1 : r.length = L) {i : Nat} (hi : i < L) : p ∣ ga (scaleL p r t) i - ga r i * t := by
  unfold scaleL
  rw [ga_map (by omega)]
  exact mod_eqm _ _
section
variable {p : Int} {L : Nat} {R : List (List Int)} {k : Nat} {st : BSt} {r m : List Int}
theorem InvB.row (I : InvB p L R k st) {j : Nat} (hj : j < st.pv.length) : ∃ o, st.rows[j]? = some o ∧ Res p L o ∧ ∀ i, fam st.rows j i = ga o i := by
  have hj2 : j < st.rows.length := by rw [I.lr]; exact hj
  have e : st.rows[j]? = some st.rows[j] := List.getElem?_eq_getElem hj2
  exact ⟨_, e, I.rr _ (List.getElem_mem _), fun i => fam_some e i⟩
theorem InvB.mkd (I : InvB p L R k st) {j : Nat} (hj : j < st.pv.length) : ∃ o, st.made[j]? = some o ∧ Res p R.length o ∧ ∀ i, fam st.made j i = ga o i := by
  have hj2 : j < st.made.length := by rw [I.lm]; exact hj
  have e : st.made[j]? = some st.made[j] := List.getElem?_eq_getElem hj2
  exact ⟨_, e, I.rm _ (List.getElem_mem _), fun i => fam_some e i⟩
theorem InvB.zip (I : InvB p L R k st) {j : Nat} (hj : j < st.pv.length) : ∃ o q, (zip3 st)[j]? = some (pat st j, o, q) ∧ st.rows[j]? = some o ∧ st.made[j]? = some q ∧ Res p L o ∧ Res p R.length q := by
  obtain ⟨o, e1, r1, _⟩ := I.row hj
  obtain ⟨q, e2, r2, _⟩ := I.mkd hj
  refine ⟨o, q, ?_, e1, e2, r1, r2⟩
  have e0 : st.pv[j]? = some (pat st j) := by
    unfold pat
    rw [List.getElem?_eq_getElem hj]
    rfl
  unfold zip3
  rw [List.getElem?_zip_eq_some]
  exact ⟨e0, by rw [List.getElem?_zip_eq_some]; exact ⟨e1, e2⟩⟩
theorem InvB.zlen (I : InvB p L R k st) : (zip3 st).length = st.pv.length := by
  unfold zip3
  rw [List.length_zip, List.length_zip, I.lr, I.lm, Nat.min_self, Nat.min_self]
/-- what the reduction leaves -/
structure Red (p : Int) (L : Nat) (R : List (List Int)) (st : BSt) (r m : List Int) (b : Nat) (rm : List Int × List Int) (τ : Nat → Int) : Prop where
  r1 : Res p L rm.1
  r2 : Res p R.length rm.2
  e1 : ∀ i, i < L → p ∣ ga rm.1 i - (ga r i + S b fun t => τ t * fam st.rows t i)
  e2 : ∀ i, i < R.length → p ∣ ga rm.2 i - (ga m i + S b fun t => τ t * fam st.made t i)
  z : ∀ i, i < b → p ∣ ga rm.1 (pat st i)
theorem red_upto (I : InvB p L R k st) (hp : 0 < p) (hr : Res p L r) (hm : Res p R.length m) : ∀ b, b ≤ st.pv.length → ∃ τ, Red p L R st r m b (((zip3 st).take b).foldl (redStep p) (r, m)) τ
  | 0, _ => ⟨fun _ => 0, hr, hm, fun i _ => by rw [S]; simp, fun i _ => by rw [S]; simp, fun i hi => by omega⟩
  | b + 1, hb => by
    obtain ⟨τ, D⟩ := red_upto I hp hr hm b (by omega)
    obtain ⟨o, q, ez, eo, eq, ro, rq⟩ := I.zip (j := b) (by omega)
    have et : (zip3 st).take (b + 1) = (zip3 st).take b ++ [(pat st b, o, q)] := by
      rw [List.take_add_one, ez]
      rfl
    rw [et, List.foldl_append]
    generalize ((zip3 st).take b).foldl (redStep p) (r, m) = rm at D
    have fo : ∀ i, fam st.rows b i = ga o i := fam_some eo
    have fq : ∀ i, fam st.made b i = ga q i := fam_some eq
    refine ⟨fun t => if t = b then -ga rm.1 (pat st b) else τ t, ?_⟩
    have so : ∀ (F : Nat → Nat → Int) (i : Nat), (S (b + 1) fun t => (if t = b then -ga rm.1 (pat st b) else τ t) * F t i) = (S b fun t => τ t * F t i) + -ga rm.1 (pat st b) * F b i := fun F i => by
      rw [S, if_pos rfl]
      congr 1
      exact S_congr fun j hj => by rw [if_neg (by omega)]
    refine ⟨addL_res hp D.r1.len ro.len, addL_res hp D.r2.len rq.len, fun i hi => ?_, fun i hi => ?_, fun i hi => ?_⟩
    · rw [so (fam st.rows) i, fo]
      refine eqm_trans (addL_eqm D.r1.len ro.len hi) ?_
      have := D.e1 i hi
      rw [show ∀ a b c d : Int, a + d - (b + (c + d)) = a - (b + c) from fun a b c d => by omega]
      exact this
    · rw [so (fam st.made) i, fq]
      refine eqm_trans (addL_eqm D.r2.len rq.len hi) ?_
      have := D.e2 i hi
      rw [show ∀ a b c d : Int, a + d - (b + (c + d)) = a - (b + c) from fun a b c d => by omega]
      exact this
    · have hl := I.pl i (by omega)
      refine dvd_eqm (addL_eqm D.r1.len ro.len hl) ?_
      have d := I.dg i b (by omega) (by omega)
      rw [fo] at d
      by_cases e : i = b
      · subst e
        rw [if_pos rfl] at d
        have : ga rm.1 (pat st i) + -ga rm.1 (pat st i) * ga o (pat st i) = -(ga rm.1 (pat st i) * (ga o (pat st i) - 1)) := by grind
        rw [this]
        exact Int.dvd_neg.mpr (Int.dvd_mul_of_dvd_right d)
      · rw [if_neg e, Int.sub_zero] at d
        exact Int.dvd_add (D.z i (by omega)) (Int.dvd_mul_of_dvd_right d)
theorem red_all (I : InvB p L R k st) (hp : 0 < p) (hr : Res p L r) (hm : Res p R.length m) : ∃ τ, Red p L R st r m st.pv.length (redB p st r m) τ := by
  obtain ⟨τ, D⟩ := red_upto I hp hr hm st.pv.length (Nat.le_refl _)
  rw [List.take_of_length_le (by rw [I.zlen]; exact Nat.le_refl _)] at D
  exact ⟨τ, D⟩
end
end La

/-! linear algebra, 3: the reduced rows are a base; sums and vectors apart. -/
namespace La
section
variable {p : Int} {L : Nat} {R : List (List Int)} {k : Nat} {st : BSt} {r m : List Int}
theorem unitL_res {n j : Nat} (hp : 1 < p) : Res p n (unitL n j) := ⟨by unfold unitL; rw [List.length_map, List.length_range], fun x hx => by
  obtain ⟨i, _, rfl⟩ := List.mem_map.mp hx
  split <;> omega⟩
theorem unitL_at {n j i : Nat} (hi : i < n) : ga (unitL n j) i = if j = i then 1 else 0 := by
  refine ga_some ?_
  unfold unitL
  rw [List.getElem?_map, List.getElem?_range hi]
  rfl
/-- the rows behind a row that is kept -/
theorem keep_at (I : InvB p L R k st) {kk : Nat} {r' : List Int} {j : Nat} (hj : j < st.pv.length) {A : List (List Int)} (hA : A.length = st.pv.length) {o a : List Int} (eo : st.rows[j]? = some o) (ea : A[j]? = some a) :
    (List.zipWith (fun one other => addL p other one r') (st.rows.map fun o => -ga o kk) A)[j]? = some (addL p a (-ga o kk) r') := by
  rw [List.getElem?_zipWith, List.getElem?_map, eo, ea]
  rfl
theorem take_inv (P : Prm p) (I : InvB p L R k st) (hk : k < R.length) (hr : Res p L (R[k]?.getD [])) : InvB p L R (k + 1) (takeB p st (R[k]?.getD []) (unitL R.length k)) := by
  have hlo := P.lo
  have hp : 0 < p := by omega
  have hm : Res p R.length (unitL R.length k) := unitL_res (by omega)
  obtain ⟨τ, D⟩ := red_all I hp hr hm
  have fk : ∀ i, fam R k i = ga (R[k]?.getD []) i := fun i => rfl
  unfold takeB
  generalize R[k]?.getD [] = r at *
  generalize redB p st r (unitL R.length k) = rm at D
  dsimp only
  cases f : firstP rm.1 with
  | none =>
    have z := firstP_none f
    refine ⟨I.lr, I.lm, I.rr, I.rm, I.pl, I.dg, I.cb, fun t ht => ?_⟩
    by_cases e : t = k
    · subst e
      refine ⟨fun j => -τ j, fun i hi => ?_⟩
      have := D.e1 i hi
      rw [z i] at this
      rw [fk, S_congr (g := fun j => -1 * (τ j * fam st.rows j i)) fun j _ => by grind, S_mul]
      rw [show ∀ a b : Int, a - -1 * b = -(0 - (a + b)) from fun a b => by omega]
      exact Int.dvd_neg.mpr this
    · exact I.sp t (by omega)
  | some kk =>
    dsimp only
    obtain ⟨kl, kn, _⟩ := firstP_some f
    rw [D.r1.len] at kl
    obtain ⟨q0, q1⟩ := D.r1.at kl
    obtain ⟨iv, _, _, _⟩ := P.inv (ga rm.1 kk) (by omega) q1
    generalize invM p (ga rm.1 kk) = t at iv
    have R1 : Res p L (scaleL p rm.1 t) := scaleL_res hp D.r1.len
    have R2 : Res p R.length (scaleL p rm.2 t) := scaleL_res hp D.r2.len
    have s1 : ∀ i, i < L → p ∣ ga (scaleL p rm.1 t) i - ga rm.1 i * t := fun i hi => scaleL_eqm D.r1.len hi
    have s2 : ∀ i, i < R.length → p ∣ ga (scaleL p rm.2 t) i - ga rm.2 i * t := fun i hi => scaleL_eqm D.r2.len hi
    generalize scaleL p rm.1 t = r' at R1 s1
    generalize scaleL p rm.2 t = m' at R2 s2
    have lt : (st.rows.map fun o => -ga o kk).length = st.pv.length := by rw [List.length_map, I.lr]
    have lA : (List.zipWith (fun one other => addL p other one r') (st.rows.map fun o => -ga o kk) st.rows).length = st.pv.length := by rw [List.length_zipWith, lt, I.lr, Nat.min_self]
    have lM : (List.zipWith (fun one other => addL p other one m') (st.rows.map fun o => -ga o kk) st.made).length = st.pv.length := by rw [List.length_zipWith, lt, I.lm, Nat.min_self]
    -- the new rows
    have nr : ∀ j, j < st.pv.length → ∃ o a, st.rows[j]? = some o ∧ st.made[j]? = some a ∧ Res p L o ∧ Res p R.length a ∧ (List.zipWith (fun one other => addL p other one r') (st.rows.map fun o => -ga o kk) st.rows)[j]? = some (addL p o (-ga o kk) r') ∧ (List.zipWith (fun one other => addL p other one m') (st.rows.map fun o => -ga o kk) st.made)[j]? = some (addL p a (-ga o kk) m') := fun j hj => by
      obtain ⟨o, a, _, eo, ea, ro, ra⟩ := I.zip hj
      exact ⟨o, a, eo, ea, ro, ra, keep_at I hj I.lr eo eo, keep_at I hj I.lm eo ea⟩
    generalize List.zipWith (fun one other => addL p other one r') (st.rows.map fun o => -ga o kk) st.rows = A at lA nr
    generalize List.zipWith (fun one other => addL p other one m') (st.rows.map fun o => -ga o kk) st.made = M at lM nr
    have fl : ∀ j i, j < st.pv.length → fam (A ++ [r']) j i = fam A j i := fun j i hj => by
      unfold fam
      rw [List.getElem?_append_left (by omega)]
    have fb : ∀ i, fam (A ++ [r']) st.pv.length i = ga r' i := fun i => by
      unfold fam
      rw [List.getElem?_append_right (by omega), lA, Nat.sub_self]
      rfl
    have gl : ∀ j i, j < st.pv.length → fam (M ++ [m']) j i = fam M j i := fun j i hj => by
      unfold fam
      rw [List.getElem?_append_left (by omega)]
    have gb : ∀ i, fam (M ++ [m']) st.pv.length i = ga m' i := fun i => by
      unfold fam
      rw [List.getElem?_append_right (by omega), lM, Nat.sub_self]
      rfl
    have rowE : ∀ j i, j < st.pv.length → i < L → p ∣ fam (A ++ [r']) j i - (fam st.rows j i + -fam st.rows j kk * ga r' i) := fun j i hj hi => by
      obtain ⟨o, a, eo, ea, ro, ra, e1, e2⟩ := nr j hj
      rw [fl j i hj, fam_some e1, fam_some eo, fam_some eo]
      exact addL_eqm ro.len R1.len hi
    have mkE : ∀ j i, j < st.pv.length → i < R.length → p ∣ fam (M ++ [m']) j i - (fam st.made j i + -fam st.rows j kk * ga m' i) := fun j i hj hi => by
      obtain ⟨o, a, eo, ea, ro, ra, e1, e2⟩ := nr j hj
      rw [gl j i hj, fam_some e2, fam_some ea, fam_some eo]
      exact addL_eqm ra.len R2.len hi
    have pl' : ∀ j, j < st.pv.length → (st.pv ++ [kk])[j]?.getD 0 = pat st j := fun j hj => by
      unfold pat
      rw [List.getElem?_append_left hj]
    have plb : (st.pv ++ [kk])[st.pv.length]?.getD 0 = kk := by
      rw [List.getElem?_append_right (Nat.le_refl _), Nat.sub_self]
      rfl
    have rk : p ∣ ga r' kk - 1 := eqm_trans (s1 kk kl) iv
    have rz : ∀ i, i < st.pv.length → p ∣ ga r' (pat st i) := fun i hi => dvd_eqm (s1 _ (I.pl i hi)) (Int.dvd_mul_of_dvd_left (D.z i hi))
    have ln : (st.pv ++ [kk]).length = st.pv.length + 1 := by rw [List.length_append]; rfl
    -- r' as a combination
    have rc : ∀ i, i < L → p ∣ ga r' i - S R.length fun u => ga m' u * fam R u i := fun i hi => by
      have e1 : p ∣ ga r' i - (ga r i + S st.pv.length fun j => τ j * fam st.rows j i) * t := eqm_trans (s1 i hi) (eqm_mul (D.e1 i hi) eqm_refl)
      have e2 : p ∣ (S R.length fun u => ga m' u * fam R u i) - S R.length fun u => (ga (unitL R.length k) u + S st.pv.length fun j => τ j * fam st.made j u) * t * fam R u i := S_eqm fun u hu => eqm_mul (eqm_trans (s2 u hu) (eqm_mul (D.e2 u hu) eqm_refl)) eqm_refl
      have e3 : (S R.length fun u => (ga (unitL R.length k) u + S st.pv.length fun j => τ j * fam st.made j u) * t * fam R u i) = (ga r i + S st.pv.length fun j => τ j * S R.length fun u => fam st.made j u * fam R u i) * t := by
        have a1 : (S R.length fun u => (ga (unitL R.length k) u + S st.pv.length fun j => τ j * fam st.made j u) * t * fam R u i) = S R.length fun u => (ga (unitL R.length k) u * fam R u i) * t + (S st.pv.length fun j => τ j * (fam st.made j u * fam R u i)) * t := S_congr fun u hu => by
          have : (S st.pv.length fun j => τ j * (fam st.made j u * fam R u i)) = (S st.pv.length fun j => τ j * fam st.made j u) * fam R u i := by
            rw [← S_mulR]
            exact S_congr fun j _ => by grind
          rw [this]
          grind
        rw [a1, S_add, S_mulR, S_mulR, S_swap, ← Int.add_mul]
        congr 1
        congr 1
        · rw [S_congr (g := fun u => if u = k then fam R u i else 0) fun u hu => by
            rw [unitL_at hu]
            by_cases q : u = k
            · subst q; rw [if_pos rfl, if_pos rfl, Int.one_mul]
            · rw [if_neg (fun z => q z.symm), if_neg q, Int.zero_mul], S_one hk fun u => fam R u i, fk]
        · exact S_congr fun j _ => by rw [S_mul]
      rw [e3] at e2
      refine eqm_trans e1 (eqm_trans (eqm_mul (eqm_add eqm_refl (S_eqm fun j hj => ?_)) eqm_refl) (eqm_symm e2))
      rw [← Int.mul_sub]
      exact Int.dvd_mul_of_dvd_right (I.cb j hj i hi)
    have spr : InSpan p L (st.pv.length + 1) (fam (A ++ [r'])) (ga r') := by
      have := InSpan.mem (p := p) (L := L) (R := fam (A ++ [r'])) (k := st.pv.length) (n := st.pv.length + 1) (by omega)
      exact this.eqm fun i _ => by rw [fb]; exact eqm_refl
    have spo : ∀ j, j < st.pv.length → InSpan p L (st.pv.length + 1) (fam (A ++ [r'])) (fam st.rows j) := fun j hj => by
      have h1 := InSpan.mem (p := p) (L := L) (R := fam (A ++ [r'])) (k := j) (n := st.pv.length + 1) (by omega)
      refine (h1.addS spr (fam st.rows j kk)).eqm fun i hi => ?_
      have := rowE j i hj hi
      have e : fam st.rows j i - (fam (A ++ [r']) j i + fam st.rows j kk * ga r' i) = -(fam (A ++ [r']) j i - (fam st.rows j i + -fam st.rows j kk * ga r' i)) := by grind
      rw [e]
      exact Int.dvd_neg.mpr this
    refine ⟨?_, ?_, ?_, ?_, ?_, ?_, ?_, ?_⟩
    · show (A ++ [r']).length = (st.pv ++ [kk]).length
      rw [List.length_append, ln, lA]; rfl
    · show (M ++ [m']).length = (st.pv ++ [kk]).length
      rw [List.length_append, ln, lM]; rfl
    · intro x hx
      rcases List.mem_append.mp hx with q | q
      · obtain ⟨j, hj⟩ := List.mem_iff_getElem?.mp q
        have lj := (List.getElem?_eq_some_iff.mp hj).1
        obtain ⟨o, a, eo, ea, ro, ra, e1, e2⟩ := nr j (by omega)
        rw [hj] at e1
        cases e1
        exact addL_res hp ro.len R1.len
      · rw [List.mem_singleton.mp q]; exact R1
    · intro x hx
      rcases List.mem_append.mp hx with q | q
      · obtain ⟨j, hj⟩ := List.mem_iff_getElem?.mp q
        have lj := (List.getElem?_eq_some_iff.mp hj).1
        obtain ⟨o, a, eo, ea, ro, ra, e1, e2⟩ := nr j (by omega)
        rw [hj] at e2
        cases e2
        exact addL_res hp ra.len R2.len
      · rw [List.mem_singleton.mp q]; exact R2
    · intro j hj
      show (st.pv ++ [kk])[j]?.getD 0 < L
      have hj' : j < (st.pv ++ [kk]).length := hj
      rw [ln] at hj'
      by_cases e : j < st.pv.length
      · rw [pl' j e]; exact I.pl j e
      · obtain rfl : j = st.pv.length := by omega
        rw [plb]; exact kl
    · intro i j hi hj
      have hi' : i < (st.pv ++ [kk]).length := hi
      have hj' : j < (st.pv ++ [kk]).length := hj
      rw [ln] at hi' hj'
      show p ∣ fam (A ++ [r']) j ((st.pv ++ [kk])[i]?.getD 0) - _
      by_cases ei : i < st.pv.length
      · rw [pl' i ei]
        by_cases ej : j < st.pv.length
        · have h1 := rowE j _ ej (I.pl i ei)
          have h2 : p ∣ -fam st.rows j kk * ga r' (pat st i) := Int.dvd_mul_of_dvd_right (rz i ei)
          have h3 := I.dg i j ei ej
          have := Int.dvd_add (Int.dvd_add h1 h2) h3
          rwa [show ∀ a b c d : Int, a - (b + c) + c + (b - d) = a - d from fun a b c d => by omega] at this
        · obtain rfl : j = st.pv.length := by omega
          rw [fb, if_neg (by omega), Int.sub_zero]
          exact rz i ei
      · obtain rfl : i = st.pv.length := by omega
        rw [plb]
        by_cases ej : j < st.pv.length
        · rw [if_neg (by omega), Int.sub_zero]
          have h1 := rowE j kk ej kl
          refine dvd_eqm h1 ?_
          have : fam st.rows j kk + -fam st.rows j kk * ga r' kk = -(fam st.rows j kk * (ga r' kk - 1)) := by grind
          rw [this]
          exact Int.dvd_neg.mpr (Int.dvd_mul_of_dvd_right rk)
        · obtain rfl : j = st.pv.length := by omega
          rw [fb, if_pos rfl]
          exact rk
    · intro j hj i hi
      have hj' : j < (st.pv ++ [kk]).length := hj
      rw [ln] at hj'
      show p ∣ fam (A ++ [r']) j i - S R.length fun u => fam (M ++ [m']) j u * fam R u i
      by_cases ej : j < st.pv.length
      · have e2 : p ∣ (S R.length fun u => fam (M ++ [m']) j u * fam R u i) - S R.length fun u => (fam st.made j u + -fam st.rows j kk * ga m' u) * fam R u i := S_eqm fun u hu => eqm_mul (mkE j u ej hu) eqm_refl
        have e3 : (S R.length fun u => (fam st.made j u + -fam st.rows j kk * ga m' u) * fam R u i) = (S R.length fun u => fam st.made j u * fam R u i) + -fam st.rows j kk * S R.length fun u => ga m' u * fam R u i := by
          rw [← S_mul, ← S_add]
          exact S_congr fun u _ => by grind
        rw [e3] at e2
        refine eqm_trans (rowE j i ej hi) (eqm_trans (eqm_add (I.cb j ej i hi) ?_) (eqm_symm e2))
        rw [← Int.mul_sub]
        exact Int.dvd_mul_of_dvd_right (rc i hi)
      · obtain rfl : j = st.pv.length := by omega
        rw [fb, S_congr (g := fun u => ga m' u * fam R u i) fun u _ => by rw [gb]]
        exact rc i hi
    · intro u hu
      show InSpan p L (st.pv ++ [kk]).length (fam (A ++ [r'])) (fam R u)
      rw [ln]
      by_cases e : u = k
      · subst e
        have h1 : InSpan p L (st.pv.length + 1) (fam (A ++ [r'])) (fun i => S st.pv.length fun j => -τ j * fam st.rows j i) := InSpan.trans (A := fam st.rows) (n := st.pv.length) ⟨fun j => -τ j, fun i _ => eqm_refl⟩ spo
        refine (h1.addS spr (ga rm.1 kk)).eqm fun i hi => ?_
        have a1 := D.e1 i hi
        have a2 := s1 i hi
        rw [fk, S_congr (g := fun j => -1 * (τ j * fam st.rows j i)) fun j _ => by grind, S_mul]
        have a3 : p ∣ ga rm.1 kk * ga r' i - ga rm.1 i := by
          have b1 : p ∣ ga rm.1 kk * ga r' i - ga rm.1 kk * (ga rm.1 i * t) := by
            rw [← Int.mul_sub]
            exact Int.dvd_mul_of_dvd_right a2
          refine eqm_trans b1 ?_
          have : ga rm.1 kk * (ga rm.1 i * t) - ga rm.1 i = (ga rm.1 kk * t - 1) * ga rm.1 i := by grind
          rw [this]
          exact Int.dvd_mul_of_dvd_left iv
        have := Int.dvd_add a1 a3
        have e5 : ga r i - (-1 * (S st.pv.length fun j => τ j * fam st.rows j i) + ga rm.1 kk * ga r' i) = -(ga rm.1 i - (ga r i + S st.pv.length fun t => τ t * fam st.rows t i) + (ga rm.1 kk * ga r' i - ga rm.1 i)) := by grind
        rw [e5]
        exact Int.dvd_neg.mpr this
      · exact (I.sp u (by omega)).trans spo
theorem basis_inv (P : Prm p) (hR : ∀ r ∈ R, Res p L r) : ∀ k, k ≤ R.length → InvB p L R k (basisL p R k)
  | 0, _ => ⟨rfl, rfl, fun r h => (nomatch h), fun r h => (nomatch h), fun j h => absurd h (Nat.not_lt_zero _), fun i j h => absurd h (Nat.not_lt_zero _), fun j h => absurd h (Nat.not_lt_zero _), fun t h => absurd h (Nat.not_lt_zero _)⟩
  | k + 1, h => by
    have e : R[k]? = some R[k] := List.getElem?_eq_getElem (by omega)
    exact take_inv P (basis_inv P hR k (by omega)) (by omega) (by rw [e]; exact hR _ (List.getElem_mem _))
/-- the kept rows are a base -/
theorem InvB.base (I : InvB p L R R.length st) : Base p L st.pv.length (fam st.rows) R.length (fam R) := by
  refine ⟨fun c hc j hj => ?_, fun j hj => ⟨fam st.made j, fun i hi => I.cb j hj i hi⟩, fun t ht => I.sp t ht⟩
  have h := hc (pat st j) (I.pl j hj)
  have e : p ∣ (S st.pv.length fun t => c t * fam st.rows t (pat st j)) - S st.pv.length fun t => c t * if j = t then 1 else 0 := S_eqm fun t ht => by
    rw [← Int.mul_sub]
    exact Int.dvd_mul_of_dvd_right (I.dg j t hj ht)
  have e2 : (S st.pv.length fun t => c t * if j = t then 1 else 0) = c j := by
    rw [S_congr (g := fun t => if t = j then c t else 0) fun t _ => by
      by_cases q : t = j
      · subst q; rw [if_pos rfl, if_pos rfl, Int.mul_one]
      · rw [if_neg (fun z => q z.symm), if_neg q, Int.mul_zero], S_one hj]
  rw [e2] at e
  exact dvd_eqm (eqm_symm e) h
/-! ### sums and vectors apart -/
def apartStep (rest : List Int) (place : Nat) (p : Int) (found : List Int) (x : Nat × List Int) : List Int := found.set x.1 (-ga x.2 place * ga found place % p)
def apartL (p : Int) (st : BSt) (rest : List Int) (place : Nat) : List Int := (st.pv.zip st.rows).foldl (apartStep rest place p) ((List.replicate rest.length 0).set place (invM p (ga rest place)))
end
end La

/-! linear algebra, 4: the vector apart; ranks by the law's elimination; combinations as lists. -/
namespace La
section
variable {p : Int} {L : Nat} {R : List (List Int)} {k : Nat} {st : BSt} {r m : List Int}
theorem pv_ne (P : Prm p) (I : InvB p L R k st) {i j : Nat} (hi : i < st.pv.length) (hj : j < st.pv.length) (n : i ≠ j) : pat st i ≠ pat st j := fun e => by
  have h1 := I.dg i j hi hj
  have h2 := I.dg j j hj hj
  rw [if_neg n, e] at h1
  rw [if_pos rfl] at h2
  have := Int.dvd_sub h1 h2
  rw [show ∀ a : Int, a - 0 - (a - 1) = 1 from fun a => by omega] at this
  exact P.fld.one this
theorem ga_set {v : List Int} {i j : Nat} {x : Int} : ga (v.set i x) j = if i = j ∧ i < v.length then x else ga v j := by
  unfold ga
  rw [List.getElem?_set]
  by_cases e : i = j
  · subst e
    by_cases l : i < v.length
    · rw [if_pos rfl, if_pos l, if_pos ⟨rfl, l⟩]; rfl
    · rw [if_pos rfl, if_neg l, if_neg (fun z => l z.2), List.getElem?_eq_none (by omega)]
  · rw [if_neg e, if_neg (fun z => e z.1)]
theorem ga_rep {n i : Nat} : ga (List.replicate n 0) i = 0 := by
  unfold ga
  rw [List.getElem?_replicate]
  split <;> rfl
structure Apart (p : Int) (L : Nat) (st : BSt) (rest : List Int) (place b : Nat) (w : List Int) : Prop where
  len : w.length = L
  at0 : ga w place = invM p (ga rest place)
  atp : ∀ j, j < b → ga w (pat st j) = -fam st.rows j place * invM p (ga rest place) % p
  off : ∀ i, i ≠ place → (∀ j, j < b → i ≠ pat st j) → ga w i = 0
theorem apart_upto (P : Prm p) (I : InvB p L R k st) {rest : List Int} {place : Nat} (hl : rest.length = L) (hp : place < L) (nz : ∀ j, j < st.pv.length → pat st j ≠ place) :
    ∀ b, b ≤ st.pv.length → Apart p L st rest place b (((st.pv.zip st.rows).take b).foldl (apartStep rest place p) ((List.replicate rest.length 0).set place (invM p (ga rest place))))
  | 0, _ => by
    have l0 : (List.replicate rest.length (0 : Int)).length = L := by rw [List.length_replicate, hl]
    refine ⟨by rw [List.take_zero]; simpa using hl, ?_, fun j h => by omega, fun i hi _ => ?_⟩
    · rw [List.take_zero, List.foldl_nil, ga_set, if_pos ⟨rfl, by omega⟩]
    · rw [List.take_zero, List.foldl_nil, ga_set, if_neg (fun z => hi z.1.symm), ga_rep]
  | b + 1, hb => by
    have D := apart_upto P I hl hp nz b (by omega)
    obtain ⟨o, eo, ro, fo⟩ := I.row (j := b) (by omega)
    have ez : (st.pv.zip st.rows)[b]? = some (pat st b, o) := by
      rw [List.getElem?_zip_eq_some]
      refine ⟨?_, eo⟩
      unfold pat
      rw [List.getElem?_eq_getElem (show b < st.pv.length by omega)]
      rfl
    have et : (st.pv.zip st.rows).take (b + 1) = (st.pv.zip st.rows).take b ++ [(pat st b, o)] := by
      rw [List.take_add_one, ez]
      rfl
    rw [et, List.foldl_append]
    generalize ((st.pv.zip st.rows).take b).foldl (apartStep rest place p) ((List.replicate rest.length 0).set place (invM p (ga rest place))) = w at D
    show Apart p L st rest place (b + 1) (w.set (pat st b) (-ga o place * ga w place % p))
    have nb := nz b (by omega)
    have lb := I.pl b (by omega)
    refine ⟨by rw [List.length_set]; exact D.len, ?_, fun j hj => ?_, fun i hi hoff => ?_⟩
    · rw [ga_set, if_neg (fun z => nb z.1)]; exact D.at0
    · rw [ga_set, D.len]
      by_cases e : b = j
      · subst e
        rw [if_pos ⟨rfl, lb⟩, D.at0, fo]
      · rw [if_neg (fun z => pv_ne P I (by omega) (by omega) e z.1)]
        exact D.atp j (by omega)
    · rw [ga_set, if_neg (fun z => hoff b (by omega) z.1.symm)]
      exact D.off i hi fun j hj => hoff j (by omega)
theorem apart_all (P : Prm p) (I : InvB p L R k st) {rest : List Int} {place : Nat} (hl : rest.length = L) (hp : place < L) (nz : ∀ j, j < st.pv.length → pat st j ≠ place) : Apart p L st rest place st.pv.length (apartL p st rest place) := by
  have := apart_upto P I hl hp nz st.pv.length (Nat.le_refl _)
  rwa [List.take_of_length_le (by rw [List.length_zip, I.lr, Nat.min_self]; exact Nat.le_refl _)] at this
/-- a product with the vector apart -/
theorem apart_dot (P : Prm p) (I : InvB p L R k st) {rest w : List Int} {place : Nat} (hp : place < L) (nz : ∀ j, j < st.pv.length → pat st j ≠ place) (D : Apart p L st rest place st.pv.length w) (X : Nat → Int) :
    (S L fun i => X i * ga w i) = X place * ga w place + S st.pv.length fun j => X (pat st j) * ga w (pat st j) := by
  have e : ∀ i, i < L → X i * ga w i = (if i = place then X place * ga w place else 0) + S st.pv.length fun j => if i = pat st j then X (pat st j) * ga w (pat st j) else 0 := fun i hi => by
    by_cases c : i = place
    · subst c
      rw [if_pos rfl, S_congr (g := fun _ => 0) fun j hj => if_neg fun z => nz j hj z.symm, S_zero]
      omega
    · rw [if_neg c]
      by_cases q : ∃ j, j < st.pv.length ∧ i = pat st j
      · obtain ⟨j0, hj0, rfl⟩ := q
        rw [S_congr (g := fun j => if j = j0 then X (pat st j) * ga w (pat st j) else 0) fun j hj => by
          by_cases e : j = j0
          · subst e; rw [if_pos rfl, if_pos rfl]
          · rw [if_neg (fun z => pv_ne P I hj hj0 e z.symm), if_neg e], S_one hj0 fun j => X (pat st j) * ga w (pat st j)]
        omega
      · rw [D.off i c fun j hj z => q ⟨j, hj, z⟩, S_congr (g := fun _ => 0) fun j hj => if_neg fun z => q ⟨j, hj, z⟩, S_zero]
        omega
  rw [S_congr e, S_add, S_one hp (fun _ => X place * ga w place), S_swap]
  congr 1
  exact S_congr fun j hj => S_one (I.pl j hj) fun _ => X (pat st j) * ga w (pat st j)
theorem apart_rows (P : Prm p) (I : InvB p L R k st) {rest w : List Int} {place : Nat} (hp : place < L) (nz : ∀ j, j < st.pv.length → pat st j ≠ place) (D : Apart p L st rest place st.pv.length w) {t : Nat} (ht : t < st.pv.length) : p ∣ S L fun i => fam st.rows t i * ga w i := by
  rw [apart_dot P I hp nz D]
  have e : p ∣ (S st.pv.length fun j => fam st.rows t (pat st j) * ga w (pat st j)) - S st.pv.length fun j => (if j = t then 1 else 0) * ga w (pat st j) := S_eqm fun j hj => eqm_mul (I.dg j t hj ht) eqm_refl
  rw [S_congr (f := fun j => (if j = t then (1 : Int) else 0) * ga w (pat st j)) (g := fun j => if j = t then ga w (pat st j) else 0) fun j _ => by
    by_cases q : j = t
    · rw [if_pos q, if_pos q, Int.one_mul]
    · rw [if_neg q, if_neg q, Int.zero_mul], S_one ht fun j => ga w (pat st j), D.atp t ht] at e
  have e2 : p ∣ -fam st.rows t place * invM p (ga rest place) % p - -fam st.rows t place * invM p (ga rest place) := mod_eqm _ _
  have := Int.dvd_add e e2
  rw [D.at0]
  have e3 : ∀ a b c d : Int, a - b + (b - -c * d) = c * d + a := fun a b c d => by grind
  rwa [e3] at this
end
/-! ### the law's ranks -/
def lelim (p : Int) (row : List Int) (pl : Nat) (o : List Int) : List Int := List.zipWith (fun one two => (one - ga o pl * invM p (ga row pl) * two) % p) o row
def lrk (p : Int) : Nat → List (List Int) → Nat
  | 0, _ => 0
  | n + 1, left => match firstP (left[n]?.getD []) with
    | none => lrk p n (left.take n)
    | some pl => lrk p n ((left.take n).map (lelim p (left[n]?.getD []) pl)) + 1
section
variable {p : Int} {L : Nat}
theorem lrk_base (P : Prm p) : ∀ (n : Nat) (left : List (List Int)), left.length = n → (∀ r ∈ left, Res p L r) → ∃ A, Base p L (lrk p n left) A n (fam left)
  | 0, left, hl, hr => ⟨fun _ _ => 0, fun c _ j hj => absurd hj (Nat.not_lt_zero _), fun j hj => absurd hj (Nat.not_lt_zero _), fun j hj => absurd hj (Nat.not_lt_zero _)⟩
  | n + 1, left, hl, hr => by
    have hlo := P.lo
    have er : left[n]? = some left[n] := List.getElem?_eq_getElem (by omega)
    have rr : Res p L (left[n]?.getD []) := by rw [er]; exact hr _ (List.getElem_mem _)
    have frow : ∀ i, fam left n i = ga (left[n]?.getD []) i := fun i => rfl
    have ft : ∀ t i, t < n → fam (left.take n) t i = fam left t i := fun t i ht => by
      unfold fam
      rw [List.getElem?_take_of_lt ht]
    have lt : (left.take n).length = n := by rw [List.length_take]; omega
    have rt : ∀ r ∈ left.take n, Res p L r := fun r h => hr r (List.mem_of_mem_take h)
    unfold lrk
    generalize left[n]?.getD [] = row at *
    cases f : firstP row with
    | none =>
      have z := firstP_none f
      obtain ⟨A, B⟩ := lrk_base P n (left.take n) lt rt
      refine ⟨A, B.ind, fun j hj => (B.inn j hj).trans fun t ht => ?_, fun t ht => ?_⟩
      · exact (InSpan.mem (R := fam left) (k := t) (by omega)).eqm fun i _ => by rw [ft t i ht]; exact eqm_refl
      · by_cases e : t < n
        · exact (B.all t e).eqm fun i _ => by rw [ft t i e]; exact eqm_refl
        · obtain rfl : t = n := by omega
          exact InSpan.zero.eqm fun i _ => by rw [frow, z i]; exact eqm_refl
    | some pl =>
      dsimp only
      obtain ⟨hpl, npl, _⟩ := firstP_some f
      rw [rr.len] at hpl
      obtain ⟨q0, q1⟩ := rr.at hpl
      obtain ⟨iv, _, _, _⟩ := P.inv (ga row pl) (by omega) q1
      have lm : ((left.take n).map (lelim p row pl)).length = n := by rw [List.length_map, lt]
      have rm : ∀ r ∈ (left.take n).map (lelim p row pl), Res p L r := fun r h => by
        obtain ⟨o, ho, rfl⟩ := List.mem_map.mp h
        have ro := rt o ho
        refine .of (by unfold lelim; rw [List.length_zipWith, ro.len, rr.len, Nat.min_self]) fun i hi => ?_
        unfold lelim
        rw [ga_zip (by rw [ro.len]; exact hi) (by rw [rr.len]; exact hi)]
        exact ⟨Int.emod_nonneg _ (by omega), Int.emod_lt_of_pos _ (by omega)⟩
      have el : ∀ t, t < n → ∀ i, i < L → p ∣ fam ((left.take n).map (lelim p row pl)) t i - (fam left t i + -(fam left t pl * invM p (ga row pl)) * ga row i) := fun t ht i hi => by
        have e0 : (left.take n)[t]? = some (left.take n)[t] := List.getElem?_eq_getElem (by omega)
        have ro := rt _ (List.getElem_mem (h := by omega) : (left.take n)[t] ∈ left.take n)
        have e1 : ((left.take n).map (lelim p row pl))[t]? = some (lelim p row pl (left.take n)[t]) := by rw [List.getElem?_map, e0]; rfl
        rw [fam_some e1, ← ft t i ht, ← ft t pl ht, fam_some e0, fam_some e0]
        unfold lelim
        rw [ga_zip (by rw [ro.len]; exact hi) (by rw [rr.len]; exact hi)]
        have := mod_eqm p (ga (left.take n)[t] i - ga (left.take n)[t] pl * invM p (ga row pl) * ga row i)
        rwa [show ∀ a b c d : Int, a - (b - c * d) = a - (b + -c * d) from fun a b c d => by grind] at this
      obtain ⟨A, B⟩ := lrk_base P n _ lm rm
      generalize (left.take n).map (lelim p row pl) = el' at *
      generalize lrk p n el' = b at *
      have sp1 : ∀ t, t < n → InSpan p L (n + 1) (fam left) (fam el' t) := fun t ht => by
        refine ((InSpan.mem (p := p) (L := L) (R := fam left) (k := t) (n := n + 1) (by omega)).addS (InSpan.mem (R := fam left) (k := n) (by omega)) (-(fam left t pl * invM p (ga row pl)))).eqm fun i hi => ?_
        rw [frow]
        exact el t ht i hi
      refine ⟨fun j => if j = b then ga row else A j, B.ind.snoc (w := fun i => if i = pl then 1 else 0) (fun j hj => ?_) ?_ P.fld, fun j hj => ?_, fun t ht => ?_⟩
      · have e2 : (S L fun i => A j i * if i = pl then 1 else 0) = A j pl := by
          rw [S_congr (g := fun i => if i = pl then A j i else 0) fun i _ => by split <;> simp, S_one hpl fun i => A j i]
        rw [e2]
        obtain ⟨c, hc⟩ := B.inn j hj
        refine dvd_eqm (hc pl hpl) (S_dvd fun t ht => Int.dvd_mul_of_dvd_right (dvd_eqm (el t ht pl hpl) ?_))
        have : fam left t pl + -(fam left t pl * invM p (ga row pl)) * ga row pl = -(fam left t pl * (ga row pl * invM p (ga row pl) - 1)) := by grind
        rw [this]
        exact Int.dvd_neg.mpr (Int.dvd_mul_of_dvd_right iv)
      · have e2 : (S L fun i => ga row i * if i = pl then 1 else 0) = ga row pl := by
          rw [S_congr (g := fun i => if i = pl then ga row i else 0) fun i _ => by split <;> simp, S_one hpl fun i => ga row i]
        rw [e2]
        exact fun d => npl (rr.zero hpl d)
      · by_cases e : j = b
        · subst e
          rw [if_pos rfl]
          exact (InSpan.mem (R := fam left) (k := n) (by omega)).eqm fun i _ => by rw [frow]; exact eqm_refl
        · rw [if_neg e]
          exact (B.inn j (by omega)).trans sp1
      · have memA : ∀ j, j < b → InSpan p L (b + 1) (fun j => if j = b then ga row else A j) (A j) := fun j hj =>
          (InSpan.mem (p := p) (L := L) (R := fun j => if j = b then ga row else A j) (k := j) (n := b + 1) (by omega)).eqm fun i _ => by
            rw [if_neg (by omega)]
            exact eqm_refl
        have memR : InSpan p L (b + 1) (fun j => if j = b then ga row else A j) (ga row) :=
          (InSpan.mem (p := p) (L := L) (R := fun j => if j = b then ga row else A j) (k := b) (n := b + 1) (by omega)).eqm fun i _ => by
            rw [if_pos rfl]
            exact eqm_refl
        by_cases e : t < n
        · have h1 := (B.all t e).trans memA
          refine (h1.addS memR (fam left t pl * invM p (ga row pl))).eqm fun i hi => ?_
          have := Int.dvd_neg.mpr (el t e i hi)
          rwa [show ∀ a b c d : Int, -(a - (b + -c * d)) = b - (a + c * d) from fun a b c d => by grind] at this
        · obtain rfl : t = n := by omega
          exact memR.eqm fun i _ => by rw [frow]; exact eqm_refl
def lrank (p : Int) (R : List (List Int)) : Nat := lrk p R.length R
theorem rank_same (P : Prm p) {R : List (List Int)} (hR : ∀ r ∈ R, Res p L r) : (basisL p R R.length).pv.length = lrank p R := by
  obtain ⟨A, B⟩ := lrk_base P R.length R rfl hR
  exact (basis_inv P hR R.length (Nat.le_refl _)).base.same P.fld B
theorem fam_app {R : List (List Int)} {x : List Int} {t i : Nat} (h : t < R.length) : fam (R ++ [x]) t i = fam R t i := by
  unfold fam
  rw [List.getElem?_append_left h]
theorem fam_last {R : List (List Int)} {x : List Int} {i : Nat} : fam (R ++ [x]) R.length i = ga x i := by
  unfold fam
  rw [List.getElem?_append_right (Nat.le_refl _), Nat.sub_self]
  rfl
theorem rank_in (P : Prm p) {R : List (List Int)} {x : List Int} (hR : ∀ r ∈ R, Res p L r) (hx : Res p L x) (h : InSpan p L R.length (fam R) (ga x)) : lrank p (R ++ [x]) = lrank p R := by
  have hR2 : ∀ r ∈ R ++ [x], Res p L r := fun r hr => (List.mem_append.mp hr).elim (hR r) fun q => by rw [List.mem_singleton.mp q]; exact hx
  have ln : (R ++ [x]).length = R.length + 1 := by rw [List.length_append]; rfl
  obtain ⟨A, B⟩ := lrk_base P R.length R rfl hR
  obtain ⟨A', B'⟩ := lrk_base P (R ++ [x]).length (R ++ [x]) rfl hR2
  have up : ∀ t, t < R.length → InSpan p L (R ++ [x]).length (fam (R ++ [x])) (fam R t) := fun t ht => (InSpan.mem (R := fam (R ++ [x])) (k := t) (by omega)).eqm fun i _ => by rw [fam_app ht]; exact eqm_refl
  have down : ∀ t, t < (R ++ [x]).length → InSpan p L R.length (fam R) (fam (R ++ [x]) t) := fun t ht => by
    by_cases e : t < R.length
    · exact (InSpan.mem (R := fam R) (k := t) e).eqm fun i _ => by rw [fam_app e]; exact eqm_refl
    · obtain rfl : t = R.length := by omega
      exact h.eqm fun i _ => by rw [fam_last]; exact eqm_refl
  exact Nat.le_antisymm (steinitz P.fld B'.ind fun j hj => ((B'.inn j hj).trans down).trans B.all) (steinitz P.fld B.ind fun j hj => ((B.inn j hj).trans up).trans B'.all)
theorem rank_out (P : Prm p) {R : List (List Int)} {x : List Int} (hR : ∀ r ∈ R, Res p L r) (hx : Res p L x) {w : Nat → Int} (hw : ∀ t, t < R.length → p ∣ S L fun i => fam R t i * w i) (h1 : ¬ p ∣ S L fun i => ga x i * w i) : lrank p (R ++ [x]) ≠ lrank p R := fun q => by
  have hR2 : ∀ r ∈ R ++ [x], Res p L r := fun r hr => (List.mem_append.mp hr).elim (hR r) fun q => by rw [List.mem_singleton.mp q]; exact hx
  have ln : (R ++ [x]).length = R.length + 1 := by rw [List.length_append]; rfl
  obtain ⟨A, B⟩ := lrk_base P R.length R rfl hR
  obtain ⟨A', B'⟩ := lrk_base P (R ++ [x]).length (R ++ [x]) rfl hR2
  have up : ∀ t, t < R.length → InSpan p L (R ++ [x]).length (fam (R ++ [x])) (fam R t) := fun t ht => (InSpan.mem (R := fam (R ++ [x])) (k := t) (by omega)).eqm fun i _ => by rw [fam_app ht]; exact eqm_refl
  have dot : ∀ j, j < lrk p R.length R → p ∣ S L fun i => A j i * w i := fun j hj => by
    obtain ⟨c, hc⟩ := B.inn j hj
    have e1 : p ∣ (S L fun i => A j i * w i) - S L fun i => (S R.length fun t => c t * fam R t i) * w i := S_eqm fun i hi => eqm_mul (hc i hi) eqm_refl
    refine dvd_eqm e1 ?_
    have e2 : (S L fun i => (S R.length fun t => c t * fam R t i) * w i) = S R.length fun t => c t * S L fun i => fam R t i * w i := by
      rw [S_congr (g := fun i => S R.length fun t => c t * (fam R t i * w i)) fun i _ => by rw [← S_mulR]; exact S_congr fun t _ => by grind, S_swap]
      exact S_congr fun t _ => by rw [S_mul]
    rw [e2]
    exact S_dvd fun t ht => Int.dvd_mul_of_dvd_right (hw t ht)
  have I2 := B.ind.snoc dot h1 P.fld
  have : lrk p R.length R + 1 ≤ lrk p (R ++ [x]).length (R ++ [x]) := steinitz P.fld I2 fun j hj => by
    by_cases e : j = lrk p R.length R
    · rw [if_pos e]
      exact InSpan.trans (A := fam (R ++ [x])) (n := (R ++ [x]).length) ((InSpan.mem (R := fam (R ++ [x])) (k := R.length) (by omega)).eqm fun i _ => by rw [fam_last]; exact eqm_refl) B'.all
    · rw [if_neg e]
      exact ((B.inn j (by omega)).trans up).trans B'.all
  have q' : lrk p (R ++ [x]).length (R ++ [x]) = lrk p R.length R := q
  omega
end
end La

/-! linear algebra, 5: products and combinations of lists; what alternative answers. -/
namespace La
def dotS (a b : List Int) : Int := (List.zipWith (fun x y => x * y) a b).sum
theorem sum_S : ∀ (l : List Int), l.sum = S l.length (ga l)
  | [] => rfl
  | x :: l => by
    rw [List.sum_cons, List.length_cons, S_shift, sum_S l]
    rfl
theorem dotS_eq {a b : List Int} {L : Nat} (ha : a.length = L) (hb : b.length = L) : dotS a b = S L fun i => ga a i * ga b i := by
  unfold dotS
  rw [sum_S, List.length_zipWith, ha, hb, Nat.min_self]
  exact S_congr fun i hi => ga_zip (by omega) (by omega)
/-- the law's combination -/
def mixL (p : Int) (len : Nat) (R : List (List Int)) (c : List Int) : List Int := (List.range len).map fun i => (List.zipWith (fun row t => ga row i * t) R c).sum % p
theorem mix_at {p : Int} {len : Nat} {R : List (List Int)} {c : List Int} (hc : c.length = R.length) {i : Nat} (hi : i < len) : ga (mixL p len R c) i = (S R.length fun t => ga c t * fam R t i) % p := by
  refine ga_some ?_
  unfold mixL
  rw [List.getElem?_map, List.getElem?_range hi]
  show some (_ % p) = _
  congr 1
  congr 1
  rw [sum_S, List.length_zipWith, hc, Nat.min_self]
  refine S_congr fun t ht => ?_
  refine ga_some ?_
  rw [List.getElem?_zipWith, ga_lt (v := c) (by omega), List.getElem?_eq_getElem ht]
  show some (ga R[t] i * ga c t) = _
  rw [fam_some (List.getElem?_eq_getElem ht), Int.mul_comm]
theorem mix_res {p : Int} (hp : 0 < p) {len : Nat} {R : List (List Int)} {c : List Int} (hc : c.length = R.length) : Res p len (mixL p len R c) := .of (by unfold mixL; rw [List.length_map, List.length_range]) fun i hi => by
  rw [mix_at hc hi]
  exact ⟨Int.emod_nonneg _ (by omega), Int.emod_lt_of_pos _ hp⟩
/-- two rows of residues that are alike modulo p are one -/
theorem Res.ext {p : Int} {L : Nat} {a b : List Int} (ha : Res p L a) (hb : Res p L b) (h : ∀ i, i < L → p ∣ ga a i - ga b i) : a = b := by
  refine ga_ext (by rw [ha.len, hb.len]) fun i hi => ?_
  rw [ha.len] at hi
  obtain ⟨a0, a1⟩ := ha.at hi
  obtain ⟨b0, b1⟩ := hb.at hi
  obtain ⟨k, e⟩ := h i hi
  have : k = 0 := by
    by_cases z : k = 0
    · exact z
    · have : 1 ≤ k ∨ k ≤ -1 := by omega
      rcases this with q | q
      · have := Int.mul_le_mul_of_nonneg_left q (show 0 ≤ p by omega)
        omega
      · have := Int.mul_le_mul_of_nonneg_left q (show 0 ≤ p by omega)
        omega
  rw [this, Int.mul_zero] at e
  omega
def combL (p : Int) (len : Nat) (R : List (List Int)) (c : List Int) : List Int := (R.zip c).foldl (fun f x => addL p f x.2 x.1) (List.replicate len 0)
section
variable {p : Int} {L : Nat} {R : List (List Int)}
theorem comb_upto (hp : 0 < p) {c : List Int} (hR : ∀ r ∈ R, Res p L r) (hc : c.length = R.length) : ∀ b, b ≤ R.length → Res p L (((R.zip c).take b).foldl (fun f x => addL p f x.2 x.1) (List.replicate L 0)) ∧ ∀ i, i < L → p ∣ ga (((R.zip c).take b).foldl (fun f x => addL p f x.2 x.1) (List.replicate L 0)) i - S b fun t => ga c t * fam R t i
  | 0, _ => ⟨⟨by simp, fun x hx => by
      rw [List.take_zero, List.foldl_nil] at hx
      rw [List.eq_of_mem_replicate hx]
      omega⟩, fun i _ => by
      rw [List.take_zero, List.foldl_nil, ga_rep, S]
      simp⟩
  | b + 1, hb => by
    obtain ⟨r1, e1⟩ := comb_upto hp hR hc b (by omega)
    have er : R[b]? = some R[b] := List.getElem?_eq_getElem (by omega)
    have ro := hR _ (List.getElem_mem (h := by omega) : R[b] ∈ R)
    have ez : (R.zip c)[b]? = some (R[b], ga c b) := by
      rw [List.getElem?_zip_eq_some]
      exact ⟨er, ga_lt (by omega)⟩
    have et : (R.zip c).take (b + 1) = (R.zip c).take b ++ [(R[b], ga c b)] := by
      rw [List.take_add_one, ez]
      rfl
    rw [et, List.foldl_append]
    generalize ((R.zip c).take b).foldl (fun f x => addL p f x.2 x.1) (List.replicate L 0) = f at r1 e1
    refine ⟨addL_res hp r1.len ro.len, fun i hi => ?_⟩
    refine eqm_trans (addL_eqm r1.len ro.len hi) ?_
    rw [S, fam_some er]
    exact eqm_add (e1 i hi) eqm_refl
theorem comb_mix (hp : 0 < p) {c : List Int} (hR : ∀ r ∈ R, Res p L r) (hc : c.length = R.length) : combL p L R c = mixL p L R c := by
  obtain ⟨r1, e1⟩ := comb_upto hp hR hc R.length (Nat.le_refl _)
  rw [List.take_of_length_le (by rw [List.length_zip, hc, Nat.min_self]; exact Nat.le_refl _)] at r1 e1
  refine r1.ext (mix_res hp hc) fun i hi => ?_
  rw [mix_at hc hi]
  exact eqm_trans (e1 i hi) (eqm_symm (mod_eqm _ _))
/-- what alternative answers: whether a sum, and its row -/
def altR (p : Int) (st : BSt) (rm : List Int × List Int) : Bool × List Int := match firstP rm.1 with
  | none => (true, rm.2.map fun x => -x % p)
  | some k => (false, apartL p st rm.1 k)
def altL (p : Int) (T : List Int) (R : List (List Int)) : Bool × List Int := altR p (basisL p R R.length) (redB p (basisL p R R.length) T (List.replicate R.length 0))
theorem apartL_res (P : Prm p) {st : BSt} {rest : List Int} {k place : Nat} (I : InvB p L R k st) (hl : rest.length = L) (hp : place < L) (nz : ∀ j, j < st.pv.length → pat st j ≠ place) (iv : 1 ≤ invM p (ga rest place) ∧ invM p (ga rest place) < p) : Res p L (apartL p st rest place) := by
  have hlo := P.lo
  have D := apart_all P I hl hp nz
  refine .of D.len fun i hi => ?_
  by_cases c : i = place
  · subst c
    rw [D.at0]
    omega
  · by_cases q : ∃ j, j < st.pv.length ∧ i = pat st j
    · obtain ⟨j, hj, rfl⟩ := q
      rw [D.atp j hj]
      exact ⟨Int.emod_nonneg _ (by omega), Int.emod_lt_of_pos _ (by omega)⟩
    · rw [D.off i c fun j hj z => q ⟨j, hj, z⟩]
      omega
theorem emod_one {a : Int} (hp : 1 < p) (h : p ∣ a - 1) : a % p = 1 := by
  obtain ⟨k, e⟩ := h
  have : a = 1 + p * k := by omega
  rw [this, Int.add_mul_emod_self_left]
  exact Int.emod_eq_of_lt (by decide) hp
theorem alt_ok (P : Prm p) {T : List Int} (hR : ∀ r ∈ R, Res p L r) (hT : Res p L T) :
    ((altL p T R).1 = true ∧ Res p R.length (altL p T R).2 ∧ mixL p L R (altL p T R).2 = T ∧ lrank p (R ++ [T]) = lrank p R) ∨
    ((altL p T R).1 = false ∧ Res p L (altL p T R).2 ∧ dotS T (altL p T R).2 % p = 1 ∧ (∀ r ∈ R, dotS r (altL p T R).2 % p = 0) ∧ lrank p (R ++ [T]) ≠ lrank p R) := by
  have hlo := P.lo
  have I := basis_inv P hR R.length (Nat.le_refl _)
  have hm : Res p R.length (List.replicate R.length (0 : Int)) := ⟨by simp, fun x hx => by rw [List.eq_of_mem_replicate hx]; omega⟩
  obtain ⟨τ, D⟩ := red_all I (by omega) hT hm
  unfold altL
  generalize basisL p R R.length = st at I D ⊢
  generalize redB p st T (List.replicate R.length 0) = rm at D ⊢
  cases f : firstP rm.1 with
  | none =>
    have ea : altR p st rm = (true, rm.2.map fun x => -x % p) := by unfold altR; rw [f]
    rw [ea]
    have z := firstP_none f
    have cR : Res p R.length (rm.2.map fun x => -x % p) := .of (by rw [List.length_map]; exact D.r2.len) fun i hi => by
      rw [ga_map (by rw [D.r2.len]; exact hi)]
      exact ⟨Int.emod_nonneg _ (by omega), Int.emod_lt_of_pos _ (by omega)⟩
    have key : ∀ i, i < L → p ∣ ga T i - S R.length fun t => ga (rm.2.map fun x => -x % p) t * fam R t i := fun i hi => by
      have e1 := D.e1 i hi
      rw [z i] at e1
      have e2 : p ∣ (S st.pv.length fun j => τ j * fam st.rows j i) - S st.pv.length fun j => τ j * S R.length fun u => fam st.made j u * fam R u i := S_eqm fun j hj => by
        rw [← Int.mul_sub]
        exact Int.dvd_mul_of_dvd_right (I.cb j hj i hi)
      have e3 : (S st.pv.length fun j => τ j * S R.length fun u => fam st.made j u * fam R u i) = S R.length fun u => (S st.pv.length fun j => τ j * fam st.made j u) * fam R u i := by
        rw [S_congr (n := R.length) (g := fun u => S st.pv.length fun j => τ j * fam st.made j u * fam R u i) fun u _ => (S_mulR _ _ _).symm, ← S_swap]
        exact S_congr fun j _ => by rw [← S_mul]; exact S_congr fun u _ => by grind
      have e4 : p ∣ (S R.length fun u => (S st.pv.length fun j => τ j * fam st.made j u) * fam R u i) - S R.length fun u => -ga (rm.2.map fun x => -x % p) u * fam R u i := S_eqm fun u hu => eqm_mul (by
        have a1 := D.e2 u hu
        rw [ga_rep, Int.zero_add] at a1
        rw [ga_map (by rw [D.r2.len]; exact hu)]
        have a2 := mod_eqm p (-ga rm.2 u)
        have := Int.dvd_add (Int.dvd_neg.mpr a1) a2
        rwa [show ∀ a b c : Int, -(a - b) + (c - -a) = b - -c from fun a b c => by omega] at this) eqm_refl
      have e5 : (S R.length fun u => -ga (rm.2.map fun x => -x % p) u * fam R u i) = -1 * S R.length fun u => ga (rm.2.map fun x => -x % p) u * fam R u i := by
        rw [← S_mul]
        exact S_congr fun u _ => by grind
      rw [e5] at e4
      rw [e3] at e2
      have := eqm_trans e2 e4
      have := Int.dvd_add e1 this
      have := Int.dvd_neg.mpr this
      rwa [show ∀ a b c : Int, -(0 - (a + b) + (b - -1 * c)) = a - c from fun a b c => by omega] at this
    refine .inl ⟨rfl, cR, (mix_res (by omega) cR.len).ext hT fun i hi => ?_, rank_in P hR hT ⟨_, key⟩⟩
    rw [mix_at cR.len hi]
    exact eqm_trans (mod_eqm _ _) (eqm_symm (key i hi))
  | some k =>
    have ea : altR p st rm = (false, apartL p st rm.1 k) := by unfold altR; rw [f]
    rw [ea]
    obtain ⟨kl, kn, _⟩ := firstP_some f
    rw [D.r1.len] at kl
    obtain ⟨q0, q1⟩ := D.r1.at kl
    obtain ⟨iv, i1, i2, _⟩ := P.inv (ga rm.1 k) (by omega) q1
    have nz : ∀ j, j < st.pv.length → pat st j ≠ k := fun j hj e => kn (by rw [← e]; exact D.r1.zero (I.pl j hj) (D.z j hj))
    have W := apart_all P I D.r1.len kl nz
    have wr := apartL_res P I D.r1.len kl nz ⟨i1, i2⟩
    have rows := fun {t} (ht : t < st.pv.length) => apart_rows P I kl nz W ht
    have dr : p ∣ (S L fun i => ga rm.1 i * ga (apartL p st rm.1 k) i) - 1 := by
      rw [apart_dot P I kl nz W, W.at0]
      have : p ∣ S st.pv.length fun j => ga rm.1 (pat st j) * ga (apartL p st rm.1 k) (pat st j) := S_dvd fun j hj => Int.dvd_mul_of_dvd_left (D.z j hj)
      have := Int.dvd_add iv this
      rwa [show ∀ a b : Int, a - 1 + b = a + b - 1 from fun a b => by omega] at this
    generalize apartL p st rm.1 k = w at W wr rows dr ⊢
    have dT : p ∣ (S L fun i => ga T i * ga w i) - 1 := by
      have e1 : p ∣ (S L fun i => ga rm.1 i * ga w i) - S L fun i => (ga T i + S st.pv.length fun t => τ t * fam st.rows t i) * ga w i := S_eqm fun i hi => eqm_mul (D.e1 i hi) eqm_refl
      have e2 : (S L fun i => (ga T i + S st.pv.length fun t => τ t * fam st.rows t i) * ga w i) = (S L fun i => ga T i * ga w i) + S st.pv.length fun t => τ t * S L fun i => fam st.rows t i * ga w i := by
        rw [S_congr (g := fun i => ga T i * ga w i + S st.pv.length fun t => τ t * (fam st.rows t i * ga w i)) fun i _ => by
          have : (S st.pv.length fun t => τ t * (fam st.rows t i * ga w i)) = (S st.pv.length fun t => τ t * fam st.rows t i) * ga w i := by
            rw [← S_mulR]
            exact S_congr fun t _ => by grind
          rw [this]
          grind, S_add, S_swap]
        congr 1
        exact S_congr fun t _ => by rw [S_mul]
      rw [e2] at e1
      have e3 : p ∣ S st.pv.length fun t => τ t * S L fun i => fam st.rows t i * ga w i := S_dvd fun t ht => Int.dvd_mul_of_dvd_right (rows ht)
      have := Int.dvd_sub dr (Int.dvd_add e1 e3)
      rwa [show ∀ a b c : Int, a - 1 - (a - (b + c) + c) = b - 1 from fun a b c => by omega] at this
    have dR : ∀ t, t < R.length → p ∣ S L fun i => fam R t i * ga w i := fun t ht => by
      obtain ⟨c, hc⟩ := I.sp t ht
      have e1 : p ∣ (S L fun i => fam R t i * ga w i) - S L fun i => (S st.pv.length fun j => c j * fam st.rows j i) * ga w i := S_eqm fun i hi => eqm_mul (hc i hi) eqm_refl
      refine dvd_eqm e1 ?_
      have e2 : (S L fun i => (S st.pv.length fun j => c j * fam st.rows j i) * ga w i) = S st.pv.length fun j => c j * S L fun i => fam st.rows j i * ga w i := by
        rw [S_congr (g := fun i => S st.pv.length fun j => c j * (fam st.rows j i * ga w i)) fun i _ => by rw [← S_mulR]; exact S_congr fun t _ => by grind, S_swap]
        exact S_congr fun t _ => by rw [S_mul]
      rw [e2]
      exact S_dvd fun j hj => Int.dvd_mul_of_dvd_right (rows hj)
    refine .inr ⟨rfl, wr, ?_, fun r hr => ?_, rank_out P hR hT dR fun h => ?_⟩
    · rw [dotS_eq hT.len wr.len]
      exact emod_one (by omega) dT
    · obtain ⟨t, ht⟩ := List.mem_iff_getElem?.mp hr
      have lt := (List.getElem?_eq_some_iff.mp ht).1
      rw [dotS_eq (hR r hr).len wr.len]
      have := dR t lt
      rw [S_congr (g := fun i => ga r i * ga w i) fun i _ => by rw [fam_some ht]] at this
      exact Int.emod_eq_zero_of_dvd this
    · have := Int.dvd_sub h dT
      rw [show ∀ a : Int, a - (a - 1) = 1 from fun a => by omega] at this
      exact P.fld.one this
end
end La

/-! k60, 1: the text. -/
namespace Sc
open PySem L2 Fw
open PyProof.Rows (envOfC)
def top (i : Nat) : Stmt := PySem.Challenge.pw_protestproof_k60_alternatives.main.body.getD i (.Pass ⟨0, 0, 0, 0⟩)
abbrev sis_whole : Stmt := top 9
abbrev nis_whole : List Str := ["thing"]
theorem scis_whole : FnScope ["thing"] ["thing"] (defScope sis_whole) := ⟨rfl, rfl, rfl, by decide +kernel, rfl, by decide +kernel, by decide +kernel⟩
abbrev sis_prime : Stmt := top 10
abbrev nis_prime : List Str := ["thing"]
theorem scis_prime : FnScope ["thing"] ["thing"] (defScope sis_prime) := ⟨rfl, rfl, rfl, by decide +kernel, rfl, by decide +kernel, by decide +kernel⟩
abbrev sis_residue : Stmt := top 11
abbrev nis_residue : List Str := ["prime", "thing"]
theorem scis_residue : FnScope ["prime", "thing"] ["prime", "thing"] (defScope sis_residue) := ⟨rfl, rfl, rfl, by decide +kernel, rfl, by decide +kernel, by decide +kernel⟩
abbrev sis_row : Stmt := top 12
abbrev nis_row : List Str := ["prime", "length", "thing", "one"]
theorem scis_row : FnScope ["prime", "length", "thing", "one"] ["prime", "length", "thing"] (defScope sis_row) := ⟨rfl, rfl, rfl, by decide +kernel, rfl, by decide +kernel, by decide +kernel⟩
abbrev sproduct : Stmt := top 13
abbrev nproduct : List Str := ["prime", "row", "vector", "one", "other"]
theorem scproduct : FnScope ["prime", "row", "vector", "one", "other"] ["prime", "row", "vector"] (defScope sproduct) := ⟨rfl, rfl, rfl, by decide +kernel, rfl, by decide +kernel, by decide +kernel⟩
abbrev scombination : Stmt := top 14
abbrev ncombination : List Str := ["prime", "length", "rows", "coefficients", "found", "row", "times"]
theorem sccombination : FnScope ["prime", "length", "rows", "coefficients", "found", "row", "times"] ["prime", "length", "rows", "coefficients"] (defScope scombination) := ⟨rfl, rfl, rfl, by decide +kernel, rfl, by decide +kernel, by decide +kernel⟩
abbrev sadded : Stmt := top 15
abbrev nadded : List Str := ["prime", "row", "times", "other", "one", "two"]
theorem scadded : FnScope ["prime", "row", "times", "other", "one", "two"] ["prime", "row", "times", "other"] (defScope sadded) := ⟨rfl, rfl, rfl, by decide +kernel, rfl, by decide +kernel, by decide +kernel⟩
abbrev sinverse : Stmt := top 16
abbrev ninverse : List Str := ["prime", "number", "other"]
theorem scinverse : FnScope ["prime", "number", "other"] ["prime", "number"] (defScope sinverse) := ⟨rfl, rfl, rfl, by decide +kernel, rfl, by decide +kernel, by decide +kernel⟩
abbrev sfirst_place : Stmt := top 17
abbrev nfirst_place : List Str := ["row", "place", "one"]
theorem scfirst_place : FnScope ["row", "place", "one"] ["row"] (defScope sfirst_place) := ⟨rfl, rfl, rfl, by decide +kernel, rfl, by decide +kernel, by decide +kernel⟩
abbrev sBasis___init__ : Stmt := inClass (top 18) 0
abbrev nBasis___init__ : List Str := ["self", "prime", "rows", "number", "row", "place"]
theorem scBasis___init__ : FnScope ["self", "prime", "rows", "number", "row", "place"] ["self", "prime", "rows"] (defScope sBasis___init__) := ⟨rfl, rfl, rfl, by decide +kernel, rfl, by decide +kernel, by decide +kernel⟩
abbrev sBasis_reduced : Stmt := inClass (top 18) 1
abbrev nBasis_reduced : List Str := ["self", "row", "made", "pivot", "other", "coefficients", "times"]
theorem scBasis_reduced : FnScope ["self", "row", "made", "pivot", "other", "coefficients", "times"] ["self", "row", "made"] (defScope sBasis_reduced) := ⟨rfl, rfl, rfl, by decide +kernel, rfl, by decide +kernel, by decide +kernel⟩
abbrev sBasis_take : Stmt := inClass (top 18) 2
abbrev nBasis_take : List Str := ["self", "row", "made", "pivot", "times", "one", "other"]
theorem scBasis_take : FnScope ["self", "row", "made", "pivot", "times", "one", "other"] ["self", "row", "made"] (defScope sBasis_take) := ⟨rfl, rfl, rfl, by decide +kernel, rfl, by decide +kernel, by decide +kernel⟩
abbrev sBasis_apart : Stmt := inClass (top 18) 3
abbrev nBasis_apart : List Str := ["self", "rest", "place", "found", "pivot", "row"]
theorem scBasis_apart : FnScope ["self", "rest", "place", "found", "pivot", "row"] ["self", "rest"] (defScope sBasis_apart) := ⟨rfl, rfl, rfl, by decide +kernel, rfl, by decide +kernel, by decide +kernel⟩
abbrev sis_rows : Stmt := top 19
abbrev nis_rows : List Str := ["prime", "length", "thing", "one"]
theorem scis_rows : FnScope ["prime", "length", "thing", "one"] ["prime", "length", "thing"] (defScope sis_rows) := ⟨rfl, rfl, rfl, by decide +kernel, rfl, by decide +kernel, by decide +kernel⟩
abbrev srank : Stmt := top 20
abbrev nrank : List Str := ["prime", "rows", "length"]
theorem scrank : FnScope ["prime", "rows", "length"] ["prime", "rows"] (defScope srank) := ⟨rfl, rfl, rfl, by decide +kernel, rfl, by decide +kernel, by decide +kernel⟩
abbrev scheck_target : Stmt := top 21
abbrev ncheck_target : List Str := ["prime", "target"]
theorem sccheck_target : FnScope ["prime", "target"] ["prime", "target"] (defScope scheck_target) := ⟨rfl, rfl, rfl, by decide +kernel, rfl, by decide +kernel, by decide +kernel⟩
abbrev salternative : Stmt := top 22
abbrev nalternative : List Str := ["prime", "target", "rows", "basis", "rest", "made", "one"]
theorem scalternative : FnScope ["prime", "target", "rows", "basis", "rest", "made", "one"] ["prime", "target", "rows"] (defScope salternative) := ⟨rfl, rfl, rfl, by decide +kernel, rfl, by decide +kernel, by decide +kernel⟩
abbrev sis_alternative : Stmt := top 23
abbrev nis_alternative : List Str := ["prime", "target", "rows", "thing", "row"]
theorem scis_alternative : FnScope ["prime", "target", "rows", "thing", "row"] ["prime", "target", "rows", "thing"] (defScope sis_alternative) := ⟨rfl, rfl, rfl, by decide +kernel, rfl, by decide +kernel, by decide +kernel⟩
abbrev s_law_se_begin : Stmt := top 25
abbrev n_law_se_begin : List Str := ["script", "cells", "cell"]
theorem sc_law_se_begin : FnScope ["script", "cells", "cell"] ["script"] (defScope s_law_se_begin) := ⟨rfl, rfl, rfl, by decide +kernel, rfl, by decide +kernel, by decide +kernel⟩
abbrev s_law_se_take : Stmt := top 26
abbrev n_law_se_take : List Str := ["draw", "size", "place", "left", "mark"]
theorem sc_law_se_take : FnScope ["draw", "size", "place", "left", "mark"] ["draw", "size"] (defScope s_law_se_take) := ⟨rfl, rfl, rfl, by decide +kernel, rfl, by decide +kernel, by decide +kernel⟩
abbrev s_law_se_primes : Stmt := top 27
abbrev n_law_se_primes : List Str := ["number", "part"]
theorem sc_law_se_primes : FnScope ["number", "part"] [] (defScope s_law_se_primes) := ⟨rfl, rfl, rfl, by decide +kernel, rfl, by decide +kernel, by decide +kernel⟩
abbrev s_law_se_is_whole : Stmt := top 28
abbrev n_law_se_is_whole : List Str := ["thing", "most"]
theorem sc_law_se_is_whole : FnScope ["thing", "most"] ["thing", "most"] (defScope s_law_se_is_whole) := ⟨rfl, rfl, rfl, by decide +kernel, rfl, by decide +kernel, by decide +kernel⟩
abbrev s_law_se_is_row : Stmt := top 29
abbrev n_law_se_is_row : List Str := ["p", "length", "thing", "one"]
theorem sc_law_se_is_row : FnScope ["p", "length", "thing", "one"] ["p", "length", "thing"] (defScope s_law_se_is_row) := ⟨rfl, rfl, rfl, by decide +kernel, rfl, by decide +kernel, by decide +kernel⟩
abbrev s_law_se_row : Stmt := top 30
abbrev n_law_se_row : List Str := ["draw", "p", "length", "met", "kind", "one", "other", "times", "first", "second", "size", "place"]
theorem sc_law_se_row : FnScope ["draw", "p", "length", "met", "kind", "one", "other", "times", "first", "second", "size", "place"] ["draw", "p", "length", "met"] (defScope s_law_se_row) := ⟨rfl, rfl, rfl, by decide +kernel, rfl, by decide +kernel, by decide +kernel⟩
abbrev s_law_se_dot : Stmt := top 31
abbrev n_law_se_dot : List Str := ["p", "row", "vector", "one", "other"]
theorem sc_law_se_dot : FnScope ["p", "row", "vector", "one", "other"] ["p", "row", "vector"] (defScope s_law_se_dot) := ⟨rfl, rfl, rfl, by decide +kernel, rfl, by decide +kernel, by decide +kernel⟩
abbrev s_law_se_mixed : Stmt := top 32
abbrev n_law_se_mixed : List Str := ["p", "length", "rows", "coefficients", "row", "times", "place"]
theorem sc_law_se_mixed : FnScope ["p", "length", "rows", "coefficients", "row", "times", "place"] ["p", "length", "rows", "coefficients"] (defScope s_law_se_mixed) := ⟨rfl, rfl, rfl, by decide +kernel, rfl, by decide +kernel, by decide +kernel⟩
abbrev s_law_se_rank : Stmt := top 33
abbrev n_law_se_rank : List Str := ["p", "rows", "left", "found", "row", "places", "place", "times", "number", "one", "two", "other"]
theorem sc_law_se_rank : FnScope ["p", "rows", "left", "found", "row", "places", "place", "times", "number", "one", "two", "other"] ["p", "rows"] (defScope s_law_se_rank) := ⟨rfl, rfl, rfl, by decide +kernel, rfl, by decide +kernel, by decide +kernel⟩
abbrev s_law_se_is_in : Stmt := top 34
abbrev n_law_se_is_in : List Str := ["p", "target", "rows"]
theorem sc_law_se_is_in : FnScope ["p", "target", "rows"] ["p", "target", "rows"] (defScope s_law_se_is_in) := ⟨rfl, rfl, rfl, by decide +kernel, rfl, by decide +kernel, by decide +kernel⟩
abbrev s_law_se_is_pair : Stmt := top 35
abbrev n_law_se_is_pair : List Str := ["thing", "word", "p", "length"]
theorem sc_law_se_is_pair : FnScope ["thing", "word", "p", "length"] ["thing", "word", "p", "length"] (defScope s_law_se_is_pair) := ⟨rfl, rfl, rfl, by decide +kernel, rfl, by decide +kernel, by decide +kernel⟩
abbrev s_law_se_bent : Stmt := top 36
abbrev n_law_se_bent : List Str := ["draw", "p", "pair", "words", "kind", "row", "place", "some"]
theorem sc_law_se_bent : FnScope ["draw", "p", "pair", "words", "kind", "row", "place", "some"] ["draw", "p", "pair", "words"] (defScope s_law_se_bent) := ⟨rfl, rfl, rfl, by decide +kernel, rfl, by decide +kernel, by decide +kernel⟩
abbrev s_law_se_says : Stmt := top 37
abbrev n_law_se_says : List Str := ["found", "due"]
theorem sc_law_se_says : FnScope ["found", "due"] ["found", "due"] (defScope s_law_se_says) := ⟨rfl, rfl, rfl, by decide +kernel, rfl, by decide +kernel, by decide +kernel⟩
abbrev s_law_se_one : Stmt := top 38
abbrev n_law_se_one : List Str := ["marks", "at", "place"]
theorem sc_law_se_one : FnScope ["marks", "at", "place"] ["marks", "at"] (defScope s_law_se_one) := ⟨rfl, rfl, rfl, by decide +kernel, rfl, by decide +kernel, by decide +kernel⟩
abbrev s_law_rows : Stmt := top 39
abbrev n_law_rows : List Str := ["draw", "p", "length", "rows", "turn"]
theorem sc_law_rows : FnScope ["draw", "p", "length", "rows", "turn"] ["draw", "p", "length"] (defScope s_law_rows) := ⟨rfl, rfl, rfl, by decide +kernel, rfl, by decide +kernel, by decide +kernel⟩
abbrev s_law_target : Stmt := top 40
abbrev n_law_target : List Str := ["draw", "p", "length", "rows", "kind", "target", "row", "place"]
theorem sc_law_target : FnScope ["draw", "p", "length", "rows", "kind", "target", "row", "place"] ["draw", "p", "length", "rows"] (defScope s_law_target) := ⟨rfl, rfl, rfl, by decide +kernel, rfl, by decide +kernel, by decide +kernel⟩
abbrev s_law_is_answer : Stmt := top 41
abbrev n_law_is_answer : List Str := ["p", "target", "rows", "thing", "row"]
theorem sc_law_is_answer : FnScope ["p", "target", "rows", "thing", "row"] ["p", "target", "rows", "thing"] (defScope s_law_is_answer) := ⟨rfl, rfl, rfl, by decide +kernel, rfl, by decide +kernel, by decide +kernel⟩
abbrev s_law_marks : Stmt := top 42
abbrev n_law_marks : List Str := ["p", "target", "rows", "way", "error", "caught"]
theorem sc_law_marks : FnScope ["p", "target", "rows", "way", "error", "caught"] ["p", "target", "rows", "way"] (defScope s_law_marks) := ⟨rfl, rfl, rfl, by decide +kernel, rfl, by decide +kernel, by decide +kernel⟩
abbrev s_law_errors_right : Stmt := top 43
abbrev n_law_errors_right : List Str := ["draw", "p", "target", "rows", "length", "way", "primes", "targets", "row", "lots", "wrong_p", "wrong_t", "wrong_r"]
theorem sc_law_errors_right : FnScope ["draw", "p", "target", "rows", "length", "way", "primes", "targets", "row", "lots", "wrong_p", "wrong_t", "wrong_r"] ["draw", "p", "target", "rows"] (defScope s_law_errors_right) := ⟨rfl, rfl, rfl, by decide +kernel, rfl, by decide +kernel, by decide +kernel⟩
abbrev slaw : Stmt := top 44
abbrev nlaw : List Str := ["script", "draw", "p", "length", "rows", "target", "found", "word", "turn", "other"]
theorem sclaw : FnScope ["script", "draw", "p", "length", "rows", "target", "found", "word", "turn", "other"] ["script"] (defScope slaw) := ⟨rfl, rfl, rfl, by decide +kernel, rfl, by decide +kernel, by decide +kernel⟩
structure Txt (K : PySem.W.Frag) (mg : Str → Option Value) where
  cBasis : Addr
  g_Basis : mg "Basis" = some (.ref cBasis)
  cl_Basis : Cls K cBasis
  no_Basis_prime : NoAttr K cBasis "prime"
  no_Basis_pivots : NoAttr K cBasis "pivots"
  no_Basis_rows : NoAttr K cBasis "rows"
  no_Basis_made : NoAttr K cBasis "made"
  no_Basis_relations : NoAttr K cBasis "relations"
  cTenderError : Addr
  g_TenderError : mg "TenderError" = some (.ref cTenderError)
  x_TenderError : PySem.W.excIn K cTenderError [.type "ValueError", .type "Exception", .type "BaseException", .type "object"] "ValueError.__new__" = true
  k_TenderError : PySem.W.keepIn K (.ref cTenderError) = true
  b_TenderError : PySem.W.subIn K (.ref cTenderError) (.type "BaseException") = some true
  t_TenderError : PySem.W.typeIn K (.ref cTenderError) = some (.type "type")
  e_TenderError : ExcC K cTenderError
  i_TenderError : PySem.W.isClsIn K cTenderError = true
  cBadPrime : Addr
  g_BadPrime : mg "BadPrime" = some (.ref cBadPrime)
  x_BadPrime : PySem.W.excIn K cBadPrime [.type "ValueError", .type "Exception", .type "BaseException", .type "object"] "ValueError.__new__" = true
  k_BadPrime : PySem.W.keepIn K (.ref cBadPrime) = true
  b_BadPrime : PySem.W.subIn K (.ref cBadPrime) (.type "BaseException") = some true
  t_BadPrime : PySem.W.typeIn K (.ref cBadPrime) = some (.type "type")
  e_BadPrime : ExcC K cBadPrime
  i_BadPrime : PySem.W.isClsIn K cBadPrime = true
  cBadRows : Addr
  g_BadRows : mg "BadRows" = some (.ref cBadRows)
  x_BadRows : PySem.W.excIn K cBadRows [.type "ValueError", .type "Exception", .type "BaseException", .type "object"] "ValueError.__new__" = true
  k_BadRows : PySem.W.keepIn K (.ref cBadRows) = true
  b_BadRows : PySem.W.subIn K (.ref cBadRows) (.type "BaseException") = some true
  t_BadRows : PySem.W.typeIn K (.ref cBadRows) = some (.type "type")
  e_BadRows : ExcC K cBadRows
  i_BadRows : PySem.W.isClsIn K cBadRows = true
  cBadTarget : Addr
  g_BadTarget : mg "BadTarget" = some (.ref cBadTarget)
  x_BadTarget : PySem.W.excIn K cBadTarget [.type "ValueError", .type "Exception", .type "BaseException", .type "object"] "ValueError.__new__" = true
  k_BadTarget : PySem.W.keepIn K (.ref cBadTarget) = true
  b_BadTarget : PySem.W.subIn K (.ref cBadTarget) (.type "BaseException") = some true
  t_BadTarget : PySem.W.typeIn K (.ref cBadTarget) = some (.type "type")
  e_BadTarget : ExcC K cBadTarget
  i_BadTarget : PySem.W.isClsIn K cBadTarget = true
  su_BadPrime_TenderError : PySem.W.subIn K (.ref cBadPrime) (.ref cTenderError) = some true
  su_BadRows_TenderError : PySem.W.subIn K (.ref cBadRows) (.ref cTenderError) = some true
  su_BadTarget_TenderError : PySem.W.subIn K (.ref cBadTarget) (.ref cTenderError) = some true
  su_BadPrime_BadPrime : PySem.W.subIn K (.ref cBadPrime) (.ref cBadPrime) = some true
  su_BadPrime_BadRows : PySem.W.subIn K (.ref cBadPrime) (.ref cBadRows) = some false
  su_BadPrime_BadTarget : PySem.W.subIn K (.ref cBadPrime) (.ref cBadTarget) = some false
  su_BadRows_BadPrime : PySem.W.subIn K (.ref cBadRows) (.ref cBadPrime) = some false
  su_BadRows_BadRows : PySem.W.subIn K (.ref cBadRows) (.ref cBadRows) = some true
  su_BadRows_BadTarget : PySem.W.subIn K (.ref cBadRows) (.ref cBadTarget) = some false
  su_BadTarget_BadPrime : PySem.W.subIn K (.ref cBadTarget) (.ref cBadPrime) = some false
  su_BadTarget_BadRows : PySem.W.subIn K (.ref cBadTarget) (.ref cBadRows) = some false
  su_BadTarget_BadTarget : PySem.W.subIn K (.ref cBadTarget) (.ref cBadTarget) = some true
  ais_whole : Addr
  dis_whole : FuncData
  Fis_whole : Fun K "is_whole" "is_whole" sis_whole ais_whole dis_whole
  g_is_whole : mg "is_whole" = some (.ref ais_whole)
  k_is_whole : PySem.W.keepIn K (.ref ais_whole) = true
  b_is_whole : Binds K dis_whole ["thing"] []
  ais_prime : Addr
  dis_prime : FuncData
  Fis_prime : Fun K "is_prime" "is_prime" sis_prime ais_prime dis_prime
  g_is_prime : mg "is_prime" = some (.ref ais_prime)
  k_is_prime : PySem.W.keepIn K (.ref ais_prime) = true
  b_is_prime : Binds K dis_prime ["thing"] []
  ais_residue : Addr
  dis_residue : FuncData
  Fis_residue : Fun K "is_residue" "is_residue" sis_residue ais_residue dis_residue
  g_is_residue : mg "is_residue" = some (.ref ais_residue)
  k_is_residue : PySem.W.keepIn K (.ref ais_residue) = true
  b_is_residue : Binds K dis_residue ["prime", "thing"] []
  ais_row : Addr
  dis_row : FuncData
  Fis_row : Fun K "is_row" "is_row" sis_row ais_row dis_row
  g_is_row : mg "is_row" = some (.ref ais_row)
  k_is_row : PySem.W.keepIn K (.ref ais_row) = true
  b_is_row : Binds K dis_row ["prime", "length", "thing"] []
  aproduct : Addr
  dproduct : FuncData
  Fproduct : Fun K "product" "product" sproduct aproduct dproduct
  g_product : mg "product" = some (.ref aproduct)
  k_product : PySem.W.keepIn K (.ref aproduct) = true
  b_product : Binds K dproduct ["prime", "row", "vector"] []
  acombination : Addr
  dcombination : FuncData
  Fcombination : Fun K "combination" "combination" scombination acombination dcombination
  g_combination : mg "combination" = some (.ref acombination)
  k_combination : PySem.W.keepIn K (.ref acombination) = true
  b_combination : Binds K dcombination ["prime", "length", "rows", "coefficients"] []
  aadded : Addr
  dadded : FuncData
  Fadded : Fun K "added" "added" sadded aadded dadded
  g_added : mg "added" = some (.ref aadded)
  k_added : PySem.W.keepIn K (.ref aadded) = true
  b_added : Binds K dadded ["prime", "row", "times", "other"] []
  ainverse : Addr
  dinverse : FuncData
  Finverse : Fun K "inverse" "inverse" sinverse ainverse dinverse
  g_inverse : mg "inverse" = some (.ref ainverse)
  k_inverse : PySem.W.keepIn K (.ref ainverse) = true
  b_inverse : Binds K dinverse ["prime", "number"] []
  afirst_place : Addr
  dfirst_place : FuncData
  Ffirst_place : Fun K "first_place" "first_place" sfirst_place afirst_place dfirst_place
  g_first_place : mg "first_place" = some (.ref afirst_place)
  k_first_place : PySem.W.keepIn K (.ref afirst_place) = true
  b_first_place : Binds K dfirst_place ["row"] []
  aBasis___init__ : Addr
  dBasis___init__ : FuncData
  FBasis___init__ : Fun K "__init__" "Basis.__init__" sBasis___init__ aBasis___init__ dBasis___init__
  b_Basis___init__ : Binds K dBasis___init__ ["self", "prime", "rows"] []
  mk_Basis : Mk K cBasis aBasis___init__
  aBasis_reduced : Addr
  dBasis_reduced : FuncData
  FBasis_reduced : Fun K "reduced" "Basis.reduced" sBasis_reduced aBasis_reduced dBasis_reduced
  b_Basis_reduced : Binds K dBasis_reduced ["self", "row", "made"] []
  m_Basis_reduced : Meth K cBasis "reduced" aBasis_reduced
  aBasis_take : Addr
  dBasis_take : FuncData
  FBasis_take : Fun K "take" "Basis.take" sBasis_take aBasis_take dBasis_take
  b_Basis_take : Binds K dBasis_take ["self", "row", "made"] []
  m_Basis_take : Meth K cBasis "take" aBasis_take
  aBasis_apart : Addr
  dBasis_apart : FuncData
  FBasis_apart : Fun K "apart" "Basis.apart" sBasis_apart aBasis_apart dBasis_apart
  b_Basis_apart : Binds K dBasis_apart ["self", "rest"] []
  m_Basis_apart : Meth K cBasis "apart" aBasis_apart
  ais_rows : Addr
  dis_rows : FuncData
  Fis_rows : Fun K "is_rows" "is_rows" sis_rows ais_rows dis_rows
  g_is_rows : mg "is_rows" = some (.ref ais_rows)
  k_is_rows : PySem.W.keepIn K (.ref ais_rows) = true
  b_is_rows : Binds K dis_rows ["prime", "length", "thing"] []
  arank : Addr
  drank : FuncData
  Frank : Fun K "rank" "rank" srank arank drank
  g_rank : mg "rank" = some (.ref arank)
  k_rank : PySem.W.keepIn K (.ref arank) = true
  b_rank : Binds K drank ["prime", "rows"] []
  acheck_target : Addr
  dcheck_target : FuncData
  Fcheck_target : Fun K "check_target" "check_target" scheck_target acheck_target dcheck_target
  g_check_target : mg "check_target" = some (.ref acheck_target)
  k_check_target : PySem.W.keepIn K (.ref acheck_target) = true
  b_check_target : Binds K dcheck_target ["prime", "target"] []
  aalternative : Addr
  dalternative : FuncData
  Falternative : Fun K "alternative" "alternative" salternative aalternative dalternative
  g_alternative : mg "alternative" = some (.ref aalternative)
  k_alternative : PySem.W.keepIn K (.ref aalternative) = true
  b_alternative : Binds K dalternative ["prime", "target", "rows"] []
  ais_alternative : Addr
  dis_alternative : FuncData
  Fis_alternative : Fun K "is_alternative" "is_alternative" sis_alternative ais_alternative dis_alternative
  g_is_alternative : mg "is_alternative" = some (.ref ais_alternative)
  k_is_alternative : PySem.W.keepIn K (.ref ais_alternative) = true
  b_is_alternative : Binds K dis_alternative ["prime", "target", "rows", "thing"] []
  a_law_se_begin : Addr
  d_law_se_begin : FuncData
  F_law_se_begin : Fun K "_law_se_begin" "_law_se_begin" s_law_se_begin a_law_se_begin d_law_se_begin
  g__law_se_begin : mg "_law_se_begin" = some (.ref a_law_se_begin)
  k__law_se_begin : PySem.W.keepIn K (.ref a_law_se_begin) = true
  b__law_se_begin : Binds K d_law_se_begin ["script"] []
  a_law_se_take : Addr
  d_law_se_take : FuncData
  F_law_se_take : Fun K "_law_se_take" "_law_se_take" s_law_se_take a_law_se_take d_law_se_take
  g__law_se_take : mg "_law_se_take" = some (.ref a_law_se_take)
  k__law_se_take : PySem.W.keepIn K (.ref a_law_se_take) = true
  b__law_se_take : Binds K d_law_se_take ["draw", "size"] []
  a_law_se_primes : Addr
  d_law_se_primes : FuncData
  F_law_se_primes : Fun K "_law_se_primes" "_law_se_primes" s_law_se_primes a_law_se_primes d_law_se_primes
  g__law_se_primes : mg "_law_se_primes" = some (.ref a_law_se_primes)
  k__law_se_primes : PySem.W.keepIn K (.ref a_law_se_primes) = true
  b__law_se_primes : Binds K d_law_se_primes [] []
  a_law_se_is_whole : Addr
  d_law_se_is_whole : FuncData
  F_law_se_is_whole : Fun K "_law_se_is_whole" "_law_se_is_whole" s_law_se_is_whole a_law_se_is_whole d_law_se_is_whole
  g__law_se_is_whole : mg "_law_se_is_whole" = some (.ref a_law_se_is_whole)
  k__law_se_is_whole : PySem.W.keepIn K (.ref a_law_se_is_whole) = true
  b__law_se_is_whole : Binds K d_law_se_is_whole ["thing", "most"] []
  a_law_se_is_row : Addr
  d_law_se_is_row : FuncData
  F_law_se_is_row : Fun K "_law_se_is_row" "_law_se_is_row" s_law_se_is_row a_law_se_is_row d_law_se_is_row
  g__law_se_is_row : mg "_law_se_is_row" = some (.ref a_law_se_is_row)
  k__law_se_is_row : PySem.W.keepIn K (.ref a_law_se_is_row) = true
  b__law_se_is_row : Binds K d_law_se_is_row ["p", "length", "thing"] []
  a_law_se_row : Addr
  d_law_se_row : FuncData
  F_law_se_row : Fun K "_law_se_row" "_law_se_row" s_law_se_row a_law_se_row d_law_se_row
  g__law_se_row : mg "_law_se_row" = some (.ref a_law_se_row)
  k__law_se_row : PySem.W.keepIn K (.ref a_law_se_row) = true
  b__law_se_row : Binds K d_law_se_row ["draw", "p", "length", "met"] []
  a_law_se_dot : Addr
  d_law_se_dot : FuncData
  F_law_se_dot : Fun K "_law_se_dot" "_law_se_dot" s_law_se_dot a_law_se_dot d_law_se_dot
  g__law_se_dot : mg "_law_se_dot" = some (.ref a_law_se_dot)
  k__law_se_dot : PySem.W.keepIn K (.ref a_law_se_dot) = true
  b__law_se_dot : Binds K d_law_se_dot ["p", "row", "vector"] []
  a_law_se_mixed : Addr
  d_law_se_mixed : FuncData
  F_law_se_mixed : Fun K "_law_se_mixed" "_law_se_mixed" s_law_se_mixed a_law_se_mixed d_law_se_mixed
  g__law_se_mixed : mg "_law_se_mixed" = some (.ref a_law_se_mixed)
  k__law_se_mixed : PySem.W.keepIn K (.ref a_law_se_mixed) = true
  b__law_se_mixed : Binds K d_law_se_mixed ["p", "length", "rows", "coefficients"] []
  a_law_se_rank : Addr
  d_law_se_rank : FuncData
  F_law_se_rank : Fun K "_law_se_rank" "_law_se_rank" s_law_se_rank a_law_se_rank d_law_se_rank
  g__law_se_rank : mg "_law_se_rank" = some (.ref a_law_se_rank)
  k__law_se_rank : PySem.W.keepIn K (.ref a_law_se_rank) = true
  b__law_se_rank : Binds K d_law_se_rank ["p", "rows"] []
  a_law_se_is_in : Addr
  d_law_se_is_in : FuncData
  F_law_se_is_in : Fun K "_law_se_is_in" "_law_se_is_in" s_law_se_is_in a_law_se_is_in d_law_se_is_in
  g__law_se_is_in : mg "_law_se_is_in" = some (.ref a_law_se_is_in)
  k__law_se_is_in : PySem.W.keepIn K (.ref a_law_se_is_in) = true
  b__law_se_is_in : Binds K d_law_se_is_in ["p", "target", "rows"] []
  a_law_se_is_pair : Addr
  d_law_se_is_pair : FuncData
  F_law_se_is_pair : Fun K "_law_se_is_pair" "_law_se_is_pair" s_law_se_is_pair a_law_se_is_pair d_law_se_is_pair
  g__law_se_is_pair : mg "_law_se_is_pair" = some (.ref a_law_se_is_pair)
  k__law_se_is_pair : PySem.W.keepIn K (.ref a_law_se_is_pair) = true
  b__law_se_is_pair : Binds K d_law_se_is_pair ["thing", "word", "p", "length"] []
  a_law_se_bent : Addr
  d_law_se_bent : FuncData
  F_law_se_bent : Fun K "_law_se_bent" "_law_se_bent" s_law_se_bent a_law_se_bent d_law_se_bent
  g__law_se_bent : mg "_law_se_bent" = some (.ref a_law_se_bent)
  k__law_se_bent : PySem.W.keepIn K (.ref a_law_se_bent) = true
  b__law_se_bent : Binds K d_law_se_bent ["draw", "p", "pair", "words"] []
  a_law_se_says : Addr
  d_law_se_says : FuncData
  F_law_se_says : Fun K "_law_se_says" "_law_se_says" s_law_se_says a_law_se_says d_law_se_says
  g__law_se_says : mg "_law_se_says" = some (.ref a_law_se_says)
  k__law_se_says : PySem.W.keepIn K (.ref a_law_se_says) = true
  b__law_se_says : Binds K d_law_se_says ["found", "due"] []
  a_law_se_one : Addr
  d_law_se_one : FuncData
  F_law_se_one : Fun K "_law_se_one" "_law_se_one" s_law_se_one a_law_se_one d_law_se_one
  g__law_se_one : mg "_law_se_one" = some (.ref a_law_se_one)
  k__law_se_one : PySem.W.keepIn K (.ref a_law_se_one) = true
  b__law_se_one : Binds K d_law_se_one ["marks", "at"] []
  a_law_rows : Addr
  d_law_rows : FuncData
  F_law_rows : Fun K "_law_rows" "_law_rows" s_law_rows a_law_rows d_law_rows
  g__law_rows : mg "_law_rows" = some (.ref a_law_rows)
  k__law_rows : PySem.W.keepIn K (.ref a_law_rows) = true
  b__law_rows : Binds K d_law_rows ["draw", "p", "length"] []
  a_law_target : Addr
  d_law_target : FuncData
  F_law_target : Fun K "_law_target" "_law_target" s_law_target a_law_target d_law_target
  g__law_target : mg "_law_target" = some (.ref a_law_target)
  k__law_target : PySem.W.keepIn K (.ref a_law_target) = true
  b__law_target : Binds K d_law_target ["draw", "p", "length", "rows"] []
  a_law_is_answer : Addr
  d_law_is_answer : FuncData
  F_law_is_answer : Fun K "_law_is_answer" "_law_is_answer" s_law_is_answer a_law_is_answer d_law_is_answer
  g__law_is_answer : mg "_law_is_answer" = some (.ref a_law_is_answer)
  k__law_is_answer : PySem.W.keepIn K (.ref a_law_is_answer) = true
  b__law_is_answer : Binds K d_law_is_answer ["p", "target", "rows", "thing"] []
  a_law_marks : Addr
  d_law_marks : FuncData
  F_law_marks : Fun K "_law_marks" "_law_marks" s_law_marks a_law_marks d_law_marks
  g__law_marks : mg "_law_marks" = some (.ref a_law_marks)
  k__law_marks : PySem.W.keepIn K (.ref a_law_marks) = true
  b__law_marks : Binds K d_law_marks ["p", "target", "rows", "way"] []
  a_law_errors_right : Addr
  d_law_errors_right : FuncData
  F_law_errors_right : Fun K "_law_errors_right" "_law_errors_right" s_law_errors_right a_law_errors_right d_law_errors_right
  g__law_errors_right : mg "_law_errors_right" = some (.ref a_law_errors_right)
  k__law_errors_right : PySem.W.keepIn K (.ref a_law_errors_right) = true
  b__law_errors_right : Binds K d_law_errors_right ["draw", "p", "target", "rows"] []
  alaw : Addr
  dlaw : FuncData
  Flaw : Fun K "law" "law" slaw alaw dlaw
  g_law : mg "law" = some (.ref alaw)
  k_law : PySem.W.keepIn K (.ref alaw) = true
  b_law : Binds K dlaw ["script"] []
  n_all : mg "all" = none
  n_bool : mg "bool" = none
  n_enumerate : mg "enumerate" = none
  n_int : mg "int" = none
  n_isinstance : mg "isinstance" = none
  n_len : mg "len" = none
  n_list : mg "list" = none
  n_max : mg "max" = none
  n_range : mg "range" = none
  n_str : mg "str" = none
  n_sum : mg "sum" = none
  n_tuple : mg "tuple" = none
  n_zip : mg "zip" = none
  c_MOST_LENGTH : ∃ u, mg "MOST_LENGTH" = some u ∧ RelV (.int 24) u
  c_MOST_ROWS : ∃ u, mg "MOST_ROWS" = some u ∧ RelV (.int 24) u
  aPRIMES : Addr
  c_PRIMES : ∃ u, mg "PRIMES" = some u ∧ RelV (.ref aPRIMES) u
  e_PRIMES : ∀ H, Dp K H (.ref aPRIMES) (.tuple (La.primesL.map .int))
theorem s_fin {K : PySem.W.Frag} {W : Wd} {ms : List Addr} {B : Bs} {ρ : List Sl} {σ : L2.St} {H : Hp} {te : TE} {d : PyData} {D : Ends} (h : At K W ms B ρ σ H) (e : Evd K W te ρ d) (k : ∀ v H', At K W ms B [] [] H' → Dp K (cut ms H') v d → D.rt v H') : tRet te D σ H :=
  s_ret h e fun v H' h' _ o => k v H' h'.nil o
end Sc

/-! k60, 2: the draws. -/
namespace Sc
open PySem L2 Fw
open PyProof.Rows (envOfC)
section
variable {P : Program} {w : World} {K : PySem.W.Frag} {mg : Str → Option Value} {base : Heap}
theorem cut_swap {a b : Addr} {ms : List Addr} {H : Hp} : Same (cut (a :: b :: ms) H) (cut (b :: a :: ms) H) := fun x o e => by
  by_cases z : x ∈ a :: b :: ms
  · rw [cut_in z] at e; cases e
  · rw [cut_out z] at e
    rw [cut_out (fun q => z (by simp only [List.mem_cons] at q ⊢; rcases q with q | q | q <;> simp [q]))]
    exact e
/-- the begin -/
def spBe (K : PySem.W.Frag) : Sp := fun vs H Q _ => ∃ (ms : List Addr) (ns : List Int), Live ms H ∧ DpAll K (cut ms H) vs [.list (ns.map .int)] ∧ ns.length ≤ 63 ∧
  ∀ (A : SeA) (H' : Hp), At K W0 (A.d :: A.l :: ms) ⟨H, H⟩ [] [] H' → H A.d = none → H A.l = none → (SW K A).P H' → (SW K A).C (cut (A.d :: A.l :: ms) H') → Q (.ref A.d) H'
theorem merge_se (A : SeA) : mergeK [] [(.inr "cells", .ref A.c), (.inr "digits", .ref A.l), (.inr "count", .int 0)] = seKv A 0 := by
  simp [mergeK, putK, seKv, str_cd, str_cn, str_dn]
theorem ok_law_se_begin (T : Txt K mg) : FnOk P w K mg base CX0 1 T.a_law_se_begin T.d_law_se_begin ["script"] (spBe K) := by
  refine T.F_law_se_begin.ok sc_law_se_begin (fun vs H Q E h => ?_) fun cdv A outer s H vs Q E hr h => ?_
  · obtain ⟨ms, ns, _, o, _⟩ := h
    rw [dpa_len o]; rfl
  obtain ⟨ms, ns, lv, o, nl, k⟩ := h
  refine ⟨_, (pss_cons (ksl 1 sc_law_se_begin.nd (pe_orT (kTy (r := rLstOf K) call_list_of T.n_list (kpa (kvl 0) pa_nil)) (pe_one (pe_lst (kpa pe_int pa_nil)))))
      (pss_one (ps_ret (pe_disp (pps_cons pe_str (kvl 1) (pps_cons pe_str (pe_lc (own := [("cell", 2)]) (g := (gName 2)) (tt := tYes) (by rfl) sc_law_se_begin.nd (show PI _ _ _ (iList K _) from pi_list (kvl 1)) (blkOk_by (by kernel_rfl)) (fun _ _ _ _ _ => (kgl 2 sc_law_se_begin.nd)) (fun _ _ _ _ _ => pts_nil) (fun _ _ _ _ _ => (kB (call_max2 rfl) T.n_max (kpa pe_int (kpa (pe_op op_sub (kvl 2) (pe_op op_pow pe_int pe_int)) pa_nil))))) (pps_cons pe_str pe_int pps_nil))) (by rfl) (by rfl) (fun z => by cases z) (by decide))))), ?_⟩
  have h : At K W0 ms ⟨H, H⟩ [.dat (.list (ns.map .int)), .emp, .emp] (L2.start n_law_se_begin vs) H := at_start (N := n_law_se_begin) lv o
  obtain ⟨cs, hc, c0, c1⟩ : ∃ cs : List Int, (if (ns.map PyData.int).isEmpty then [PyData.int 5] else ns.map PyData.int) = cs.map PyData.int ∧ 0 < cs.length ∧ cs.length ≤ 63 := by
    cases ns with
    | nil => exact ⟨[5], rfl, by decide, by decide⟩
    | cons n ns => exact ⟨n :: ns, rfl, by simp, nl⟩
  refine q_asg h (ev_eq (ev_orL (ev_of_ef (ef_list (evd_var rfl))) (ev_lst (ed_cons ev_int ed_nil) (by show 1 ≤ 100000; decide))) (by rw [hc])) fun σ1 H1 h1 _ => ?_
  dsimp only [List.set] at h1
  refine fun p hp => ?_
  have h2 := h1.own (o := .dK []) hp
  obtain ⟨p0, pm, _⟩ := h1.fresh hp
  obtain ⟨cv, ec, oc⟩ := h2.env.get (i := 1) rfl (by intro q; cases q)
  obtain ⟨c, rfl⟩ : ∃ c, cv = .ref c := by cases oc with | lst _ _ => exact ⟨_, rfl⟩
  refine ⟨_, ec, ?_⟩
  dsimp only [tPairs, tC]
  have big : ∀ {ρ : List Sl}, Evd K W0 (tOp (rI CPow fun i j => .int (i ^ j.toNat)) (tC (.int 10)) (tC (.int 18))) ρ (.int (10 ^ 18)) := fun {ρ} => ev_pow ev_int ev_int ⟨by decide, by decide, by decide⟩
  have ed : EvF K W0 _ _ _ := ef_lc0 (K := K) (W := W0) (j := 2) (xs := cs) (enc := PyData.int) (f := fun c => .int (if c - 10 ^ 18 > 0 then c - 10 ^ 18 else 0)) (ρ := [.dat (.list (ns.map .int)), .dat (.list (cs.map .int)), .emp]) (src_list (evd_var (i := 1) rfl)) (by omega) fun x _ => ev_max2 (i := 0) (j := x - 10 ^ 18) ev_int (ev_sub (evd_var (i := 2) rfl) big)
  have h2' : At K W0 (p :: ms) ⟨H, H⟩ [.dat (.list (ns.map .int)), .dat (.list (cs.map .int)), .emp] σ1 (upd H1 p (.dK [])) := h2
  refine ed (p :: ms) ⟨H, H⟩ σ1 _ h2' _ fun ds l vl H3 φ h3 x3 hl e3 o3 => ?_
  subst φ
  obtain ⟨l0, lm, lw⟩ := h2'.fresh hl
  have pl : p ≠ l := fun q => lm (by rw [← q]; exact List.mem_cons_self)
  let A2 : SeA := ⟨p, l, c, cs, pl, c0, by omega⟩
  have ep : H3 p = some (.dK []) := x3 p _ (by intro z; cases z) upd_same
  have ho : DpAll K (cut (l :: p :: ms) H3) vl ((cs.map fun c => if c - 10 ^ 18 > 0 then c - 10 ^ 18 else 0).map .int) := by
    rw [List.map_map]; exact o3
  obtain rfl := dpa_ints ho
  have h4 := h2'.adopt x3 h3 hl e3
  refine ⟨ep, [(.inr "cells", .ref c), (.inr "digits", .ref l), (.inr "count", .int 0)], rfl, by show 3 ≤ 15; decide, ?_⟩
  rw [show mergeK [] _ = seKv A2 0 from merge_se A2]
  have h5 := (h4.write (o := .dK (seKv A2 0)) (l := p) (by simp) (by intro z; cases z) p0)
  refine k A2 _ ⟨fun _ z => (by cases z), ?_, .nil, trivial, h5.xw, cut_swap.trans (h5.st.trans cut_swap), trivial⟩ p0 l0 ⟨cs.map fun c => if c - 10 ^ 18 > 0 then c - 10 ^ 18 else 0, 0, List.length_map .., upd_same, ?_⟩ ?_
  · intro a z
    have z : a ∈ p :: l :: ms := z
    exact h5.live a (by simp only [List.mem_cons] at z ⊢; rcases z with q | q | q <;> simp [q])
  · rw [upd_ne (show A2.l ≠ p from Ne.symm pl)]
    exact e3
  · have oc2 : Dp K (cut (l :: p :: ms) H3) (.ref c) (.list (cs.map .int)) := dp_mono ((cut_new hl).trans (x3.cut fun a z => by cases z)) _ _ oc
    exact dp_mono ((cut_put (p := p) (ms := l :: p :: ms) (.inl (List.mem_cons_of_mem _ List.mem_cons_self))).trans cut_swap) _ _ oc2
theorem q_begun {B : Bs} {H : Hp} {ρ : List Sl} {σ : L2.St} {D : Ends} {tz : TS} {i j : Nat} {ns : List Int} {E : XK} (h : At K W0 [] B ρ σ H) (hr : ρ[i]? = some (.dat (.list (ns.map .int)))) (hl : ns.length ≤ 63)
    (k : ∀ (A : SeA) σ' H', At K (SW K A) [A.d, A.l] ⟨H', H'⟩ (ρ.set j (.raw (.ref A.d))) σ' H' → tz D σ' H') : tSeq (tAsg (tCall (spBe K) [] E (tCons (tVar i) tNil)) (gName j)) tz D σ H := by
  obtain ⟨v, ev, ov⟩ := h.env.get hr (by intro q; cases q)
  refine ⟨_, ev, ?_⟩
  refine ⟨[], ns, h.live, .cons ov .nil, hl, fun A H1 a1 d0 l0 p1 c1 => ?_⟩
  refine k A _ H1 ?_
  have dl : (cut [A.l] H) A.d = none := by
    rw [cut_out (by simpa using A.ne)]
    exact d0
  have m : Same (cut [] H) (cut [A.d, A.l] H1) := ((cut_new l0).trans (cut_new d0)).trans a1.st
  have b1 : At K (SW K A) [A.d, A.l] ⟨H1, H1⟩ ρ σ H1 := ⟨fun _ z => z, a1.live, h.env.mono m, p1, .refl H1, Same.refl _, c1⟩
  exact b1.set (s := .raw (.ref A.d)) rfl j
abbrev spD (K : PySem.W.Frag) := spU K (SW K) SeA.d
/-! ### _law_se_take -/
def Pt (ds : List PyData) : Prop := ∃ m : Int, 0 < m ∧ m < 1000 ∧ ds = [.int m]
def Gt (ds : List PyData) (d : PyData) : Prop := ∃ m n : Int, ds = [.int m] ∧ d = .int n ∧ 0 ≤ n ∧ n < m
theorem ok_law_se_take (T : Txt K mg) : FnOk P w K mg base CX0 1 T.a_law_se_take T.d_law_se_take ["draw", "size"] (spD K Pt Gt) := by
  refine drawOkU T.F_law_se_take sc_law_se_take (by rintro _ ⟨m, _, _, rfl⟩; rfl) fun cdv A outer s H E hr => ⟨_, (pss_cons (ps_dput (hu_of hr) (kvl 0) pe_str (pe_op op_add (pe_dget (hu_of hr) (kvl 0) pe_str (fun _ _ => rfl)) pe_int) rfl)
      (pss_cons (ksl 2 sc_law_se_take.nd (pe_op op_mod (pe_dget (hu_of hr) (kvl 0) pe_str (fun _ _ => rfl)) (kB (r := rLenQ K) call_len_seq T.n_len (kpa (pe_dget (hu_of hr) (kvl 0) pe_str (fun _ _ => rfl)) pa_nil))))
      (pss_cons (ksl 3 sc_law_se_take.nd (pe_ix (r := rIxL K) ix_list (pe_dget (hu_of hr) (kvl 0) pe_str (fun _ _ => rfl)) (kvl 2) (fun _ _ => rfl)))
      (pss_cons (ps_if (pt_cmpR op_gt (kvl 3) pe_int (nomark _)) (pss_cons (kasg (pe_op op_fdivW (kvl 3) (kvl 1)) (pg_sub (pe_dget (hu_of hr) (kvl 0) pe_str (fun _ _ => rfl)) (kvl 2) set_list))
      (pss_one (ps_ret (pe_op op_mod (kTy call_int1 T.n_int (kpa (kvl 3) pa_nil)) (kvl 1))))) pss_nil)
      (pss_cons (ksl 4 sc_law_se_take.nd (pe_op op_mod (kTy call_int1 T.n_int (kpa (pe_op op_add (pe_ix (r := rIxL K) ix_list (pe_dget (hu_of hr) (kvl 0) pe_str (fun _ _ => rfl)) (kvl 2) (fun _ _ => rfl)) (pe_op op_mul pe_int (pe_dget (hu_of hr) (kvl 0) pe_str (fun _ _ => rfl)))) pa_nil)) pe_int))
      (pss_one (ps_ret (pe_op op_mod (pe_op op_fdivW (pe_op op_mod (pe_op op_pow (kvl 4) pe_int) pe_int) pe_int) (kvl 1))))))))), ?_⟩
  rintro _ ⟨m, hm, nm, rfl⟩ A ms σ H Q h k
  have h : At K (SW K A) ms ⟨H, H⟩ [.raw (.ref A.d), .dat (.int m), .emp, .emp, .emp] σ H := h
  have pos := A.pos
  have few := A.few
  refine q_seN h rfl (en_I0 (Ψ := fun _ => True) (en_seN rfl) (en_int (Ψ := fun _ => True) trivial) fun _ _ _ _ => trivial) fun H1 h1 => ?_
  refine q_asgN h1 (en_I (Ψ := fun n => 0 ≤ n ∧ n < (A.cells.length : Int)) (en_seN rfl) (en_evi (Ψ := (· = (A.cells.length : Int))) (evd_eq (ev_lenL (ev_seC rfl)) (by rw [List.length_map])) rfl) (fun i j _ e => by rw [show j = _ from e]; omega) fun i j _ e => by rw [show j = _ from e]; exact ⟨Int.emod_nonneg _ (by omega), Int.emod_lt_of_pos _ (by omega)⟩) fun s1 σ2 H2 p2 h2 => ?_
  obtain ⟨n, rfl, n0, n1⟩ := p2
  obtain ⟨j, rfl⟩ : ∃ j : Nat, n = (j : Int) := ⟨n.toNat, by omega⟩
  have hj : j < A.cells.length := by omega
  dsimp only [List.set] at h2
  refine q_asgN h2 (en_seD rfl (evd_var rfl) hj) fun s3 σ3 H3 p3 h3 => ?_
  obtain ⟨l, rfl, _⟩ := p3
  dsimp only [List.set] at h3
  have bd : ∀ z : Int, 0 ≤ z % m ∧ z % m < m := fun z => ⟨Int.emod_nonneg _ (by omega), Int.emod_lt_of_pos _ (by omega)⟩
  refine q_when h3 (et_test (ev_gt (evd_var rfl) ev_int)) (fun _ H4 h4 _ => ?_) fun _ H4 h4 _ => ?_
  · refine q_seD h4 rfl (evd_var rfl) hj (en_evi (Ψ := fun _ => True) (ev_divW (evd_var rfl) (evd_var rfl) ⟨hm, ?_⟩) trivial) fun H5 h5 => ?_
    · exact Nat.lt_of_le_of_lt (Nat.log2_le_self _) (by omega)
    · exact s_fin h5 (ev_mod (ev_toInt (evd_var rfl)) (evd_var rfl) hm) fun v H' a o => k _ v H' ⟨m, _, rfl, rfl, bd _⟩ a o
  · have ec : (A.cells.map PyData.int)[j]? = some (.int A.cells[j]) := by rw [List.getElem?_map, List.getElem?_eq_getElem hj]; rfl
    have at1 : atI (A.cells.map PyData.int) (j : Int) = some (.int A.cells[j]) := by
      unfold atI
      rw [ix_nat (by rw [List.length_map]; exact hj)]
      exact ec
    refine q_asgN h4 (en_I (Ψ := fun n => 0 ≤ n ∧ n < 2147483587) (en_toInt (en_I0 (Ψ := fun _ => True) (en_evi (Ψ := fun _ => True) (ev_ixL (ev_seC rfl) (evd_var rfl) at1) trivial) (en_I (Ψ := fun _ => True) (en_int (Ψ := (· = 104729)) rfl) (en_seN rfl) (fun i j e _ => by rw [show i = _ from e]; exact .inl (by decide)) fun _ _ _ _ => trivial) fun _ _ _ _ => trivial)) (en_int (Ψ := (· = 2147483587)) rfl) (fun i j _ e => by rw [show j = _ from e]; decide) fun i j _ e => by rw [show j = _ from e]; exact ⟨Int.emod_nonneg _ (by decide), Int.emod_lt_of_pos _ (by decide)⟩) fun s5 σ5 H5 p5 h5 => ?_
    obtain ⟨z, rfl, z0, z1⟩ := p5
    dsimp only [List.set] at h5
    exact s_fin h5 (ev_mod (ev_divW (ev_mod (ev_pow (evd_var rfl) ev_int ⟨by decide, by decide, by omega⟩) ev_int (by decide)) ev_int ⟨by decide, by decide⟩) (evd_var rfl) hm) fun v H' a o => k _ v H' ⟨m, _, rfl, rfl, bd _⟩ a o
theorem en_take {A : SeA} {ρ : List Sl} {te : TE} {i : Nat} {E : XK} {m : Int} (h : ρ[i]? = some (.raw (.ref A.d))) (e : Evd K (SW K A) te ρ (.int m)) (hm : 0 < m) (nm : m < 1000) : En K (SW K A) (tCall (spD K Pt Gt) [] E (tCons (tVar i) (tCons te tNil))) ρ (IsI fun n => 0 ≤ n ∧ n < m) :=
  isi_of (en_callU h (end_of (ed_cons e ed_nil) (Ψ := (· = [.int m])) rfl) fun _ q => ⟨m, hm, nm, q⟩) fun d ⟨ds, q, m', n, e1, e2, b⟩ => by
    rw [show ds = [.int m] from q] at e1
    cases e1
    exact ⟨n, e2, b⟩
end
end Sc

/-! k60, 3: the judges of values. -/
namespace Sc
open PySem L2 Fw La
open PyProof.Rows (envOfC)
def isInt : PyData → Bool
  | .int _ => true
  | _ => false
def isPr : PyData → Bool
  | .int n => decide (n ∈ primesL)
  | _ => false
def isRs (p : Int) : PyData → Bool
  | .int n => decide (0 ≤ n) && decide (n < p)
  | _ => false
def isRow (p : Int) (L : Nat) : PyData → Bool
  | .tuple ds => decide (ds.length = L) && ds.all (isRs p)
  | _ => false
def isRows (p : Int) (L : Nat) : PyData → Bool
  | .tuple ds => decide (ds.length ≤ 24) && ds.all (isRow p L)
  | _ => false
def rowL (v : List Int) : PyData := .list (v.map .int)
def rowT (v : List Int) : PyData := .tuple (v.map .int)
def rowsT (R : List (List Int)) : PyData := .tuple (R.map rowT)
theorem isRs_of {p : Int} {d : PyData} (h : isRs p d = true) : ∃ n : Int, d = .int n ∧ 0 ≤ n ∧ n < p := by
  cases d with
  | int n =>
    simp only [isRs, Bool.and_eq_true, decide_eq_true_eq] at h
    exact ⟨n, rfl, h⟩
  | _ => cases h
theorem isRs_all {p : Int} : ∀ {ds : List PyData}, ds.all (isRs p) = true → ∃ v : List Int, ds = v.map .int ∧ ∀ x ∈ v, 0 ≤ x ∧ x < p
  | [], _ => ⟨[], rfl, fun x h => nomatch h⟩
  | d :: ds, h => by
    rw [List.all_cons, Bool.and_eq_true] at h
    obtain ⟨n, rfl, b⟩ := isRs_of h.1
    obtain ⟨v, rfl, bv⟩ := isRs_all h.2
    exact ⟨n :: v, rfl, fun x hx => (List.mem_cons.mp hx).elim (fun q => q ▸ b) (bv x)⟩
theorem isRow_of {p : Int} {L : Nat} {d : PyData} (h : isRow p L d = true) : ∃ v, d = rowT v ∧ Res p L v := by
  cases d with
  | tuple ds =>
    simp only [isRow, Bool.and_eq_true, decide_eq_true_eq] at h
    obtain ⟨v, rfl, bv⟩ := isRs_all h.2
    exact ⟨v, rfl, by rw [← h.1, List.length_map], bv⟩
  | _ => cases h
theorem isRow_to {p : Int} {L : Nat} {v : List Int} (h : Res p L v) : isRow p L (rowT v) = true := by
  simp only [isRow, rowT, Bool.and_eq_true, decide_eq_true_eq, List.length_map]
  refine ⟨h.len, List.all_eq_true.mpr fun d hd => ?_⟩
  obtain ⟨n, hn, rfl⟩ := List.mem_map.mp hd
  simp only [isRs, Bool.and_eq_true, decide_eq_true_eq]
  exact h.bd n hn
theorem isRows_to {p : Int} {L : Nat} {R : List (List Int)} (hR : ∀ r ∈ R, Res p L r) (hl : R.length ≤ 24) : isRows p L (rowsT R) = true := by
  simp only [isRows, rowsT, Bool.and_eq_true, decide_eq_true_eq, List.length_map]
  refine ⟨hl, List.all_eq_true.mpr fun d hd => ?_⟩
  obtain ⟨n, hn, rfl⟩ := List.mem_map.mp hd
  exact isRow_to (hR n hn)
theorem ones_empty {xs : List PyData} {q : PyData → Bool} : PyData.eqv (.list ((xs.filter fun x => !q x).map fun _ => .int 1)) (.list []) = xs.all q := by
  have e : ∀ zs : List PyData, PyData.eqv (.list (zs.map fun _ => PyData.int 1)) (.list []) = zs.isEmpty := fun zs => by cases zs <;> rfl
  rw [e]
  induction xs with
  | nil => rfl
  | cons x xs ih =>
    cases h : q x with
    | true => rw [List.filter_cons_of_neg (by simp [h]), ih, List.all_cons, h, Bool.true_and]
    | false => rw [List.filter_cons_of_pos (by simp [h]), List.all_cons, h]; rfl
theorem ones_shaped {α : Type} {xs : List α} : SeqAt.shaped (.list (xs.map fun _ => PyData.int 1)) = true := (shp_list (n := 0) fun d hd => by
  obtain ⟨_, _, rfl⟩ := List.mem_map.mp hd
  exact shp_int 1).shaped (by decide)
theorem nil_shaped : SeqAt.shaped (.list []) = true := (shp_list (n := 0) (by simp)).shaped (by decide)
section
variable {K : PySem.W.Frag} {W : Wd} {ρ : List Sl} {te : TE} {tt : TT} {d : PyData}
theorem ev_inPrimes {a : Addr} {n : Int} (e : ∀ H, Dp K H (.ref a) (.tuple (primesL.map .int))) (h : Evd K W te ρ (.int n)) : Evd K W (tOp (rIn K false) te (tC (.ref a))) ρ (.bool (decide (n ∈ primesL))) := ev_op h ev_c fun ms H x y _ hx hy Q q => by
  cases hx
  subst hy
  cases e H with
  | tup hs ha =>
    have e2 := dpa_ints ha
    rw [e2] at hs
    refine ⟨_, _, rfl, .inr hs, rfl, rfl, ?_⟩
    show Q (.bl (inV (V.int n) (primesL.map V.int))) H
    have e3 : inV (V.int n) (primesL.map V.int) = decide (n ∈ primesL) := by
      unfold inV
      rw [Bool.eq_iff_iff, List.any_eq_true, decide_eq_true_eq]
      constructor
      · rintro ⟨y, hy, e⟩
        obtain ⟨m, hm, rfl⟩ := List.mem_map.mp hy
        have : m = n := by simpa [eqV] using e
        exact this ▸ hm
      · exact fun hn => ⟨.int n, List.mem_map_of_mem hn, by simp [eqV]⟩
    rw [e3]
    exact q _ H (Same.refl H) (.bl _)
/-- isinstance(x, int) and not isinstance(x, bool) -/
theorem ev_isInt {tb : TE} (h : Evd K W te ρ d) : Evd K W (tAndV (tCB (rIsi K) (tCons te (tCons (tC (.ty "int")) tNil))) (tNotV (tCB (rIsi K) (tCons te (tCons (tC (.ty "bool")) tNil))))) ρ (.bool (isInt d)) := by
  cases d with
  | int n => exact ev_andV (a := true) (b := true) (ev_isi h kb_int_int) fun _ => ev_notV (a := false) (ev_isi h kb_int_bool)
  | bool n => exact ev_andV (a := true) (b := false) (ev_isi h kb_bool_int) fun _ => ev_notV (a := true) (ev_isi h kb_bool_bool)
  | none => exact ev_andV (a := false) (b := false) (ev_isi h kb_NoneType_int) fun q => nomatch q
  | str x => exact ev_andV (a := false) (b := false) (ev_isi h kb_str_int) fun q => nomatch q
  | list x => exact ev_andV (a := false) (b := false) (ev_isi h kb_list_int) fun q => nomatch q
  | tuple x => exact ev_andV (a := false) (b := false) (ev_isi h kb_tuple_int) fun q => nomatch q
  | dict x => exact ev_andV (a := false) (b := false) (ev_isi h kb_dict_int) fun q => nomatch q
def isTup : PyData → Bool
  | .tuple _ => true
  | _ => false
theorem ev_isTup (h : Evd K W te ρ d) : Evd K W (tCB (rIsi K) (tCons te (tCons (tC (.ty "tuple")) tNil))) ρ (.bool (isTup d)) := by
  cases d with
  | int n => exact ev_isi h kb_int_tuple
  | bool n => exact ev_isi h kb_bool_tuple
  | none => exact ev_isi h kb_NoneType_tuple
  | str x => exact ev_isi h kb_str_tuple
  | list x => exact ev_isi h kb_list_tuple
  | tuple x => exact ev_isi h kb_tuple_tuple
  | dict x => exact ev_isi h kb_dict_tuple
end
section
variable {P : Program} {w : World} {K : PySem.W.Frag} {mg : Str → Option Value} {base : Heap}
def Giw (ds : List PyData) (d : PyData) : Prop := ∃ x, ds = [x] ∧ d = .bool (isInt x)
theorem okis_whole (T : Txt K mg) : FnOk P w K mg base CX0 1 T.ais_whole T.dis_whole ["thing"] (spP K Giw) := by
  refine pureOk T.Fis_whole scis_whole (by rintro _ _ ⟨_, rfl, _⟩; rfl) fun cdv A outer s H E hr => ⟨_, (pss_one (ps_ret (pe_and (kB (r := rIsi K) call_isi T.n_isinstance (kpa (kvl 0) (kpa (kty (T := "int") T.n_int) pa_nil))) (pe_one (pe_not (kB (r := rIsi K) call_isi T.n_isinstance (kpa (kvl 0) (kpa (kty (T := "bool") T.n_bool) pa_nil)))))))), ?_⟩
  rintro _ _ ⟨x, rfl, rfl⟩ ms σ H Q h k
  exact s_fin h (ev_isInt (tb := tC .non) (evd_var rfl)) k
def Gip (ds : List PyData) (d : PyData) : Prop := ∃ x, ds = [x] ∧ d = .bool (isPr x)
theorem okis_prime (T : Txt K mg) : FnOk P w K mg base CX0 2 T.ais_prime T.dis_prime ["thing"] (spP K Gip) := by
  refine pureOk T.Fis_prime scis_prime (by rintro _ _ ⟨_, rfl, _⟩; rfl) fun cdv A outer s H E hr => ⟨_, (pss_one (ps_ret (pe_and (kcall (okis_whole T) (hr.mono (by decide)) T.g_is_whole T.k_is_whole T.b_is_whole (kpa (kvl 0) pa_nil)) (pe_one (pe_cmpR (r := rIn K false) op_in_seq (kvl 0) (kgc' T.c_PRIMES) (by rfl)))))), ?_⟩
  rintro _ _ ⟨x, rfl, rfl⟩ ms σ H Q h k
  refine s_fin h (evd_eq (ev_andV (a := isInt x) (b := isPr x) (ev_call (ed_cons (evd_var rfl) ed_nil) ⟨x, rfl, rfl⟩) fun q => ?_) ?_) k
  · cases x with
    | int n => exact ev_inPrimes T.e_PRIMES (evd_var rfl)
    | _ => cases q
  · cases x <;> rfl
def Gir (ds : List PyData) (d : PyData) : Prop := ∃ (p : Int) (x : PyData), ds = [.int p, x] ∧ d = .bool (isRs p x)
theorem okis_residue (T : Txt K mg) : FnOk P w K mg base CX0 2 T.ais_residue T.dis_residue ["prime", "thing"] (spP K Gir) := by
  refine pureOk T.Fis_residue scis_residue (by rintro _ _ ⟨_, _, rfl, _⟩; rfl) fun cdv A outer s H E hr => ⟨_, (pss_one (ps_ret (pe_and (kcall (okis_whole T) (hr.mono (by decide)) T.g_is_whole T.k_is_whole T.b_is_whole (kpa (kvl 1) pa_nil)) (pe_one (pe_chain op_le op_lt pe_int (kvl 1) (kvl 0)))))), ?_⟩
  rintro _ _ ⟨p, x, rfl, rfl⟩ ms σ H Q h k
  refine s_fin h (evd_eq (ev_andV (a := isInt x) (b := isRs p x) (ev_call (ed_cons (evd_var rfl) ed_nil) ⟨x, rfl, rfl⟩) fun q => ?_) ?_) k
  · cases x with
    | int n => exact ev_chain ev_int (evd_var rfl) (evd_var rfl)
    | _ => cases q
  · cases x <;> rfl
def Grw (ds : List PyData) (d : PyData) : Prop := ∃ (p : Int) (L : Nat) (x : PyData), L ≤ 1000 ∧ ds = [.int p, .int (L : Int), x] ∧ d = .bool (isRow p L x)
theorem nat_eq {a b : Nat} : decide ((a : Int) = (b : Int)) = decide (a = b) := by
  by_cases h : a = b
  · subst h; simp
  · rw [decide_eq_false h, decide_eq_false (by omega)]
theorem okis_row (T : Txt K mg) : FnOk P w K mg base CX0 3 T.ais_row T.dis_row ["prime", "length", "thing"] (spP K Grw) := by
  refine pureOk T.Fis_row scis_row (by rintro _ _ ⟨_, _, _, _, rfl, _⟩; rfl) fun cdv A outer s H E hr => ⟨_, (pss_one (ps_ret (pe_and (kB (r := rIsi K) call_isi T.n_isinstance (kpa (kvl 2) (kpa (kty (T := "tuple") T.n_tuple) pa_nil))) (pe_and (pe_cmpR op_eq (kB (r := rLenQ K) call_len_seq T.n_len (kpa (kvl 2) pa_nil)) (kvl 1) (nomark _)) (pe_one (kB (r := rAll K) (cr_all rfl) T.n_all (kpa (pe_lc (own := [("one", 3)]) (g := (gName 3)) (tt := tYes) (by rfl) scis_row.nd (show PI _ _ _ (iTup K _) from pi_tup (kvl 2)) (blkOk_by (by kernel_rfl)) (fun _ _ _ _ _ => (kgl 3 scis_row.nd)) (fun _ _ _ _ _ => pts_nil) (fun _ _ _ _ _ => (kcall (okis_residue T) (hr.mono (by decide)) T.g_is_residue T.k_is_residue T.b_is_residue (kpa (kvc 0) (kpa (kvl 3) pa_nil))))) pa_nil))))))), ?_⟩
  rintro _ _ ⟨p, L, x, hL, rfl, rfl⟩ ms σ H Q h k
  refine s_fin h (evd_eq (ev_andV (a := isTup x) (b := isRow p L x) (ev_isTup (evd_var rfl)) fun q => ?_) (by cases x <;> rfl)) k
  cases x with
  | tuple ds =>
    refine ev_andV (a := decide (ds.length = L)) (b := ds.all (isRs p)) (evd_eq (ev_eqI (ev_lenT (evd_var rfl)) (evd_var rfl)) (by rw [nat_eq])) fun q2 => ?_
    have hl : ds.length = L := of_decide_eq_true q2
    exact evd_eq (ev_all (bs := ds.map (isRs p)) (ev_lc0 (xs := ds) (enc := fun x => x) (f := fun x => .bool (isRs p x)) (src_tup (evd_eq (evd_var rfl) (by rw [List.map_id']))) (by omega) fun y _ => ev_call (ed_cons (evd_var rfl) (ed_cons (evd_var rfl) ed_nil)) ⟨p, y, rfl, rfl⟩) (by rw [List.map_map]; rfl)) (by rw [List.all_map]; rfl)
  | _ => cases q
def Grs (ds : List PyData) (d : PyData) : Prop := ∃ (p : Int) (L : Nat) (x : PyData), L ≤ 1000 ∧ ds = [.int p, .int (L : Int), x] ∧ d = .bool (isRows p L x)
theorem okis_rows (T : Txt K mg) : FnOk P w K mg base CX0 4 T.ais_rows T.dis_rows ["prime", "length", "thing"] (spP K Grs) := by
  refine pureOk T.Fis_rows scis_rows (by rintro _ _ ⟨_, _, _, _, rfl, _⟩; rfl) fun cdv A outer s H E hr => ⟨_, (pss_one (ps_ret (pe_and (kB (r := rIsi K) call_isi T.n_isinstance (kpa (kvl 2) (kpa (kty (T := "tuple") T.n_tuple) pa_nil))) (pe_and (pe_cmpR op_le (kB (r := rLenQ K) call_len_seq T.n_len (kpa (kvl 2) pa_nil)) (kgc' T.c_MOST_ROWS) (nomark _)) (pe_one (kB (r := rAll K) (cr_all rfl) T.n_all (kpa (pe_lc (own := [("one", 3)]) (g := (gName 3)) (tt := tYes) (by rfl) scis_rows.nd (show PI _ _ _ (iTup K _) from pi_tup (kvl 2)) (blkOk_by (by kernel_rfl)) (fun _ _ _ _ _ => (kgl 3 scis_rows.nd)) (fun _ _ _ _ _ => pts_nil) (fun _ _ _ _ _ => (kcall (okis_row T) (hr.mono (by decide)) T.g_is_row T.k_is_row T.b_is_row (kpa (kvc 0) (kpa (kvc 1) (kpa (kvl 3) pa_nil)))))) pa_nil))))))), ?_⟩
  rintro _ _ ⟨p, L, x, hL, rfl, rfl⟩ ms σ H Q h k
  refine s_fin h (evd_eq (ev_andV (a := isTup x) (b := isRows p L x) (ev_isTup (evd_var rfl)) fun q => ?_) (by cases x <;> rfl)) k
  cases x with
  | tuple ds =>
    refine ev_andV (a := decide (ds.length ≤ 24)) (b := ds.all (isRow p L)) (evd_eq (ev_le (ev_lenT (evd_var rfl)) (ev_cd fun _ => .int 24)) (by congr 1; exact decide_eq_decide.mpr (by omega))) fun q2 => ?_
    have hl : ds.length ≤ 24 := of_decide_eq_true q2
    exact evd_eq (ev_all (bs := ds.map (isRow p L)) (ev_lc0 (xs := ds) (enc := fun x => x) (f := fun x => .bool (isRow p L x)) (src_tup (evd_eq (evd_var rfl) (by rw [List.map_id']))) (by omega) fun y _ => ev_call (ed_cons (evd_var rfl) (ed_cons (evd_var rfl) (ed_cons (evd_var rfl) ed_nil))) ⟨p, L, y, hL, rfl, rfl⟩) (by rw [List.map_map]; rfl)) (by rw [List.all_map]; rfl)
  | _ => cases q
/-! the law's own -/
def Gsw (ds : List PyData) (d : PyData) : Prop := ∃ (p : Int) (x : PyData), ds = [x, .int p] ∧ d = .bool (isRs p x)
theorem ok_law_se_is_whole (T : Txt K mg) : FnOk P w K mg base CX0 1 T.a_law_se_is_whole T.d_law_se_is_whole ["thing", "most"] (spP K Gsw) := by
  refine pureOk T.F_law_se_is_whole sc_law_se_is_whole (by rintro _ _ ⟨_, _, rfl, _⟩; rfl) fun cdv A outer s H E hr => ⟨_, (pss_one (ps_ret (pe_and (kB (r := rIsi K) call_isi T.n_isinstance (kpa (kvl 0) (kpa (kty (T := "int") T.n_int) pa_nil))) (pe_and (pe_not (kB (r := rIsi K) call_isi T.n_isinstance (kpa (kvl 0) (kpa (kty (T := "bool") T.n_bool) pa_nil)))) (pe_one (pe_chain op_le op_lt pe_int (kvl 0) (kvl 1))))))), ?_⟩
  rintro _ _ ⟨p, x, rfl, rfl⟩ ms σ H Q h k
  refine s_fin h ?_ k
  cases x with
  | int n => exact ev_andV (a := true) (b := decide (0 ≤ n) && decide (n < p)) (ev_isi (evd_var rfl) kb_int_int) fun _ => ev_andV (a := true) (ev_notV (a := false) (ev_isi (evd_var rfl) kb_int_bool)) fun _ => ev_chain ev_int (evd_var rfl) (evd_var rfl)
  | bool n => exact ev_andV (a := true) (b := false) (ev_isi (evd_var rfl) kb_bool_int) fun _ => ev_andV (a := false) (b := false) (ev_notV (a := true) (ev_isi (evd_var rfl) kb_bool_bool)) fun q => nomatch q
  | none => exact ev_andV (a := false) (b := false) (ev_isi (evd_var rfl) kb_NoneType_int) fun q => nomatch q
  | str x => exact ev_andV (a := false) (b := false) (ev_isi (evd_var rfl) kb_str_int) fun q => nomatch q
  | list x => exact ev_andV (a := false) (b := false) (ev_isi (evd_var rfl) kb_list_int) fun q => nomatch q
  | tuple x => exact ev_andV (a := false) (b := false) (ev_isi (evd_var rfl) kb_tuple_int) fun q => nomatch q
  | dict x => exact ev_andV (a := false) (b := false) (ev_isi (evd_var rfl) kb_dict_int) fun q => nomatch q
theorem ok_law_se_is_row (T : Txt K mg) : FnOk P w K mg base CX0 2 T.a_law_se_is_row T.d_law_se_is_row ["p", "length", "thing"] (spP K Grw) := by
  refine pureOk T.F_law_se_is_row sc_law_se_is_row (by rintro _ _ ⟨_, _, _, _, rfl, _⟩; rfl) fun cdv A outer s H E hr => ⟨_, (pss_cons (ps_if (PW.pt (pw_or (pt_not (kval (kB (r := rIsi K) call_isi T.n_isinstance (kpa (kvl 2) (kpa (kty (T := "tuple") T.n_tuple) pa_nil))))) (pw_or1 (pt_cmpR op_ne (kB (r := rLenQ K) call_len_seq T.n_len (kpa (kvl 2) pa_nil)) (kvl 1) (nomark _))))) (pss_one (ps_ret pe_bl)) pss_nil)
      (pss_one (ps_ret (pe_cmpR (r := rEqD K) (op_eqD hr.units) (pe_lc (own := [("one", 3)]) (g := (gName 3)) (by rfl) sc_law_se_is_row.nd (show PI _ _ _ (iTup K _) from pi_tup (kvl 2)) (blkOk_by (by kernel_rfl)) (fun _ _ _ _ _ => (kgl 3 sc_law_se_is_row.nd)) (fun _ _ _ _ _ => (pts_one (pt_not (kval (kcall (ok_law_se_is_whole T) (hr.mono (by decide)) T.g__law_se_is_whole T.k__law_se_is_whole T.b__law_se_is_whole (kpa (kvl 3) (kpa (kvc 0) pa_nil))))))) (fun _ _ _ _ _ => pe_int)) (pe_lst pa_nil) (nomark _))))), ?_⟩
  rintro _ _ ⟨p, L, x, hL, rfl, rfl⟩ ms σ H Q h k
  refine q_when (b := !isTup x || !decide ((match x with | .tuple ds => ds.length | _ => 0) = L)) h (et_or (et_not (et_B (ev_isTup (evd_var rfl)))) fun q => ?_) (fun q H1 h1 _ => ?_) fun q H1 h1 _ => ?_
  · cases x with
    | tuple ds => exact et_eq (et_test (ev_neI (ev_lenT (evd_var rfl)) (evd_var rfl))) (by rw [nat_eq])
    | _ => cases q
  · refine s_fin h1 (evd_eq ev_bl ?_) k
    cases x with
    | tuple ds =>
      have : ¬ ds.length = L := by simpa [isTup] using q
      show _ = PyData.bool (decide (ds.length = L) && ds.all (isRs p))
      rw [decide_eq_false this]
      rfl
    | _ => rfl
  · cases x with
    | tuple ds =>
      have hl : ds.length = L := by simpa [isTup] using q
      refine s_fin h1 (evd_eq (ev_eqD (ev_lc1 (xs := ds) (enc := fun x => x) (f := fun _ => .int 1) (p := fun x => !isRs p x) (src_tup (evd_eq (evd_var rfl) (by rw [List.map_id']))) (by omega) (fun y _ => et_not (et_B (ev_call (ed_cons (evd_var rfl) (ed_cons (evd_var rfl) ed_nil)) ⟨p, y, rfl, rfl⟩))) fun _ _ _ => ev_int) (ev_lst ed_nil (Nat.zero_le _)) ones_shaped nil_shaped) ?_) k
      rw [ones_empty]
      show _ = PyData.bool (decide (ds.length = L) && ds.all (isRs p))
      rw [decide_eq_true hl]
      rfl
    | _ => cases q
end
end Sc

/-! k60, 4: rows reckoned. -/
namespace Sc
open PySem L2 Fw La
open PyProof.Rows (envOfC)
theorem firstP_at {v : List Int} {i : Nat} (h : ∀ j, j < i → ga v j = 0) (hi : i < v.length) (n : ga v i ≠ 0) : firstP v = some i := by
  cases e : firstP v with
  | none => exact absurd (firstP_none e i) n
  | some k =>
    obtain ⟨h1, h2, h3⟩ := firstP_some e
    have : ¬ k < i := fun q => h2 (h k q)
    have : ¬ i < k := fun q => n (h3 i q)
    congr 1
    omega
theorem firstP_no {v : List Int} (h : ∀ j, j < v.length → ga v j = 0) : firstP v = none := by
  cases e : firstP v with
  | none => rfl
  | some k =>
    obtain ⟨h1, h2, _⟩ := firstP_some e
    exact absurd (h k h1) h2
def optP : Option Nat → PyData
  | none => .none
  | some k => .int (k : Int)
theorem inv_head {p a : Int} (P : Prm p) (h0 : 0 < a) (h1 : a < p) :
    (((List.range (p - 1).toNat).filter fun i : Nat => decide (a * (1 + (i : Int)) % p = 1)).map fun i : Nat => PyData.int (1 + (i : Int)))[0]? = some (.int (invM p a)) := by
  obtain ⟨_, _, _, e⟩ := P.inv a h0 h1
  have lo := P.lo
  obtain ⟨n, hn⟩ : ∃ n : Nat, p = (n : Int) + 1 := ⟨(p - 1).toNat, by omega⟩
  have e1 : p.toNat = n + 1 := by omega
  have e2 : (p - 1).toNat = n := by omega
  rw [e1, List.range_succ_eq_map, List.map_cons, List.find?_cons_of_neg (by simp), List.map_map, List.find?_map] at e
  rw [e2, List.getElem?_map, ← List.head?_eq_getElem?, List.head?_filter]
  have ef : (fun (b : Int) => decide (a * b % p = 1)) ∘ ((fun (b : Nat) => (b : Int)) ∘ Nat.succ) = fun i : Nat => decide (a * (1 + (i : Int)) % p = 1) := by
    funext i
    show decide (a * ((i + 1 : Nat) : Int) % p = 1) = _
    rw [show ((i + 1 : Nat) : Int) = 1 + (i : Int) by omega]
  rw [ef] at e
  cases q : List.find? (fun i : Nat => decide (a * (1 + (i : Int)) % p = 1)) (List.range n) with
  | none => rw [q] at e; cases e
  | some j =>
    rw [q] at e
    have : ((j + 1 : Nat) : Int) = invM p a := Option.some.inj e
    show some (PyData.int (1 + (j : Int))) = _
    congr 2
    omega
theorem zip_ints (a b : List Int) : List.zipWith (fun a b => PyData.tuple [a, b]) (a.map PyData.int) (b.map PyData.int) = (a.zip b).map fun p => .tuple [.int p.1, .int p.2] := zip_tup _ _
theorem primes_are : (((List.range (98 - 11 : Int).toNat).filter fun i : Nat => [2, 3, 5, 7].all fun k : Int => !decide ((11 + (i : Int)) % k = 0)).map fun i : Nat => (11 + (i : Int))) = primesL := by decide +kernel
theorem small_i {p x : Int} (h : 0 ≤ x ∧ x < p) (hp : p ≤ 97) : -(2 ^ 64) < x ∧ x < 2 ^ 64 := ⟨by omega, by omega⟩
section
variable {K : PySem.W.Frag} {W : Wd} {ρ : List Sl} {ta : TA}
theorem src_zipS {b : Bool} {ds es : List PyData} (h : EvD K W ta ρ [sq b ds, sq b es]) : Src K W (RZ.iZipA K ta) ρ (List.zipWith (fun a b => PyData.tuple [a, b]) ds es) := by
  cases b with
  | true => exact src_zipL h
  | false => exact src_zipT h
end
section
variable {P : Program} {w : World} {K : PySem.W.Frag} {mg : Str → Option Value} {base : Heap}
def Gad (ds : List PyData) (d : PyData) : Prop := ∃ (p t : Int) (b : Bool) (a o : List Int), 0 < p ∧ -(2 ^ 64) < t ∧ t < 2 ^ 64 ∧ a.length ≤ 1000 ∧ ds = [.int p, sq b (a.map .int), .int t, sq b (o.map .int)] ∧ d = rowL (addL p a t o)
theorem okadded (T : Txt K mg) : FnOk P w K mg base CX0 1 T.aadded T.dadded ["prime", "row", "times", "other"] (spP K Gad) := by
  refine pureOk T.Fadded scadded (by rintro _ _ ⟨_, _, _, _, _, _, _, _, _, rfl, _⟩; rfl) fun cdv A outer s H E hr => ⟨_, (pss_one (ps_ret (pe_lc (own := [("one", 4), ("two", 5)]) (g := (gTup K 2 (gCons (gName 4) (gCons (gName 5) gNil)))) (tt := tYes) (by rfl) scadded.nd (show PI _ _ _ (RZ.iZipA K _) from kzip T.n_zip (kpa (kvl 1) (kpa (kvl 3) pa_nil))) (blkOk_by (by kernel_rfl)) (fun _ _ _ _ _ => (kgt (n := 2) (by rfl) (kgs (kgl 4 scadded.nd) (kgs (kgl 5 scadded.nd) pgs_nil)))) (fun _ _ _ _ _ => pts_nil) (fun _ _ _ _ _ => (pe_op op_mod (pe_op op_add (kvl 4) (pe_op op_mul (kvc 2) (kvl 5))) (kvc 0)))))), ?_⟩
  rintro _ _ ⟨p, t, b, a, o, hp, t0, t1, la, rfl, rfl⟩ ms σ H Q h k
  refine s_fin h (evd_eq (ev_lcN (xs := a.zip o) (enc := fun q => .tuple [.int q.1, .int q.2]) (f := fun q => .int ((q.1 + t * q.2) % p)) (S := fun q => [.dat (.int p), .dat (sq b (a.map .int)), .dat (.int t), .dat (sq b (o.map .int)), .dat (.int q.1), .dat (.int q.2)])
    (zip_ints a o ▸ src_zipS (ed_cons (evd_var rfl) (ed_cons (evd_var rfl) ed_nil))) (by rw [List.length_zip]; omega) (fun q hq => ⟨[4, 5], tg_tup (tgs_cons tg_name (tgs_cons tg_name tgs_nil)) rfl, fun j z => z⟩) fun q hq => ?_) ?_) k
  · exact ev_mod (ev_add (evd_var rfl) (ev_mul (evd_var rfl) (evd_var rfl) (.inl ⟨t0, t1⟩))) (evd_var rfl) hp
  · unfold rowL addL
    rw [List.zip_eq_zipWith, List.map_zipWith, List.map_zipWith]
theorem ev_added {W : Wd} {ρ : List Sl} {ta tb tc td : TE} {E : XK} {p t : Int} {b : Bool} {a o : List Int} (h1 : Evd K W ta ρ (.int p)) (h2 : Evd K W tb ρ (sq b (a.map .int))) (h3 : Evd K W tc ρ (.int t)) (h4 : Evd K W td ρ (sq b (o.map .int))) (hp : 0 < p) (t0 : -(2 ^ 64) < t) (t1 : t < 2 ^ 64) (la : a.length ≤ 1000) :
    Evd K W (tCall (spP K Gad) [] E (tCons ta (tCons tb (tCons tc (tCons td tNil))))) ρ (rowL (addL p a t o)) := ev_call (ed_cons h1 (ed_cons h2 (ed_cons h3 (ed_cons h4 ed_nil)))) ⟨p, t, b, a, o, hp, t0, t1, la, rfl, rfl⟩
def Gpr (ds : List PyData) (d : PyData) : Prop := ∃ (p : Int) (L : Nat) (a b : List Int), 0 < p ∧ p ≤ 97 ∧ L ≤ 1000 ∧ Res p L a ∧ Res p L b ∧ ds = [.int p, rowT a, rowT b] ∧ d = .int (dotS a b % p)
theorem dot_ev {W : Wd} {ρ : List Sl} {x y : Nat} {p : Int} {L : Nat} {a b : List Int} {te1 te2 : TE} (e1 : Evd K W te1 [.dat (.int p), .dat (rowT a), .dat (rowT b), .emp, .emp] (rowT a)) (e2 : Evd K W te2 [.dat (.int p), .dat (rowT a), .dat (rowT b), .emp, .emp] (rowT b)) (hp : p ≤ 97) (hL : L ≤ 1000) (ra : Res p L a) (rb : Res p L b) :
    Evd K W (tCB (rSum K) (tCons (tLc (RZ.iZipA K (tCons te1 (tCons te2 tNil))) (gTup K 2 (gCons (gName 3) (gCons (gName 4) gNil))) tYes (tOp (rI CMul fun i j => .int (i * j)) (tVar 3) (tVar 4)) [3, 4]) tNil)) [.dat (.int p), .dat (rowT a), .dat (rowT b), .emp, .emp] (.int (dotS a b)) := by
  refine evd_eq (ev_sum (ns := (a.zip b).map fun q => q.1 * q.2) (ev_lcN (xs := a.zip b) (enc := fun q => .tuple [.int q.1, .int q.2]) (f := fun q => .int (q.1 * q.2)) (S := fun q => [.dat (.int p), .dat (rowT a), .dat (rowT b), .dat (.int q.1), .dat (.int q.2)])
    (zip_ints a b ▸ src_zipT (ed_cons e1 (ed_cons e2 ed_nil))) (by rw [List.length_zip]; have := ra.len; omega) (fun q hq => ⟨[3, 4], tg_tup (tgs_cons tg_name (tgs_cons tg_name tgs_nil)) rfl, fun j z => z⟩) fun q hq => ?_) (by rw [List.map_map]; rfl)) ?_
  · exact ev_mul (evd_var rfl) (evd_var rfl) (.inl (small_i (ra.bd q.1 (List.of_mem_zip hq).1) hp))
  · unfold dotS
    rw [List.zip_eq_zipWith, List.map_zipWith]
theorem okproduct (T : Txt K mg) : FnOk P w K mg base CX0 1 T.aproduct T.dproduct ["prime", "row", "vector"] (spP K Gpr) := by
  refine pureOk T.Fproduct scproduct (by rintro _ _ ⟨_, _, _, _, _, _, _, _, _, rfl, _⟩; rfl) fun cdv A outer s H E hr => ⟨_, (pss_one (ps_ret (pe_op op_mod (kB (r := rSum K) (cr_sum rfl) T.n_sum (kpa (pe_lc (own := [("one", 3), ("other", 4)]) (g := (gTup K 2 (gCons (gName 3) (gCons (gName 4) gNil)))) (tt := tYes) (by rfl) scproduct.nd (show PI _ _ _ (RZ.iZipA K _) from kzip T.n_zip (kpa (kvl 1) (kpa (kvl 2) pa_nil))) (blkOk_by (by kernel_rfl)) (fun _ _ _ _ _ => (kgt (n := 2) (by rfl) (kgs (kgl 3 scproduct.nd) (kgs (kgl 4 scproduct.nd) pgs_nil)))) (fun _ _ _ _ _ => pts_nil) (fun _ _ _ _ _ => (pe_op op_mul (kvl 3) (kvl 4)))) pa_nil)) (kvl 0)))), ?_⟩
  rintro _ _ ⟨p, L, a, b, hp, hp2, hL, ra, rb, rfl, rfl⟩ ms σ H Q h k
  exact s_fin h (ev_mod (dot_ev (ρ := []) (x := 0) (y := 0) (evd_var rfl) (evd_var rfl) hp2 hL ra rb) (evd_var rfl) hp) k
theorem ok_law_se_dot (T : Txt K mg) : FnOk P w K mg base CX0 1 T.a_law_se_dot T.d_law_se_dot ["p", "row", "vector"] (spP K Gpr) := by
  refine pureOk T.F_law_se_dot sc_law_se_dot (by rintro _ _ ⟨_, _, _, _, _, _, _, _, _, rfl, _⟩; rfl) fun cdv A outer s H E hr => ⟨_, (pss_one (ps_ret (pe_op op_mod (kB (r := rSum K) (cr_sum rfl) T.n_sum (kpa (pe_lc (own := [("one", 3), ("other", 4)]) (g := (gTup K 2 (gCons (gName 3) (gCons (gName 4) gNil)))) (tt := tYes) (by rfl) sc_law_se_dot.nd (show PI _ _ _ (RZ.iZipA K _) from kzip T.n_zip (kpa (kvl 1) (kpa (kvl 2) pa_nil))) (blkOk_by (by kernel_rfl)) (fun _ _ _ _ _ => (kgt (n := 2) (by rfl) (kgs (kgl 3 sc_law_se_dot.nd) (kgs (kgl 4 sc_law_se_dot.nd) pgs_nil)))) (fun _ _ _ _ _ => pts_nil) (fun _ _ _ _ _ => (pe_op op_mul (kvl 3) (kvl 4)))) pa_nil)) (kvl 0)))), ?_⟩
  rintro _ _ ⟨p, L, a, b, hp, hp2, hL, ra, rb, rfl, rfl⟩ ms σ H Q h k
  exact s_fin h (ev_mod (dot_ev (ρ := []) (x := 0) (y := 0) (evd_var rfl) (evd_var rfl) hp2 hL ra rb) (evd_var rfl) hp) k
def Gin (ds : List PyData) (d : PyData) : Prop := ∃ p a : Int, Prm p ∧ 0 < a ∧ a < p ∧ ds = [.int p, .int a] ∧ d = .int (invM p a)
theorem okinverse (T : Txt K mg) : FnOk P w K mg base CX0 1 T.ainverse T.dinverse ["prime", "number"] (spP K Gin) := by
  refine pureOk T.Finverse scinverse (by rintro _ _ ⟨_, _, _, _, _, rfl, _⟩; rfl) fun cdv A outer s H E hr => ⟨_, (pss_one (ps_ret (pe_ix (r := rIxL K) ix_list (pe_lc (own := [("other", 2)]) (g := (gName 2)) (by rfl) scinverse.nd (krg2 T.n_range (kpa pe_int (kpa (kvc 0) pa_nil))) (blkOk_by (by kernel_rfl)) (fun _ _ _ _ _ => (kgl 2 scinverse.nd)) (fun _ _ _ _ _ => (pts_one (pt_cmpR op_eq (pe_op op_mod (pe_op op_mul (kvc 1) (kvl 2)) (kvc 0)) pe_int (nomark _)))) (fun _ _ _ _ _ => (kvl 2))) pe_int (fun _ _ => rfl)))), ?_⟩
  rintro _ _ ⟨p, a, Pp, h0, h1, rfl, rfl⟩ ms σ H Q h k
  have lo := Pp.lo
  have hi := Pp.hi
  refine s_fin h (ev_ixL (ev_lc1 (xs := List.range (p - 1).toNat) (enc := fun i => .int (1 + (i : Int))) (f := fun i => .int (1 + (i : Int))) (p := fun i => decide (a * (1 + (i : Int)) % p = 1)) (src_range2 (ed_cons ev_int (ed_cons (evd_var rfl) ed_nil)) (by omega) (by omega) (by decide) (by decide)) (by rw [List.length_range]; omega) (fun i hi => ?_) fun i hi _ => evd_var rfl) ev_int ?_) k
  · exact et_test (ev_eqI (ev_mod (ev_mul (evd_var rfl) (evd_var rfl) (.inl ⟨by omega, by omega⟩)) (evd_var rfl) (by omega)) ev_int)
  · have e := inv_head Pp h0 h1
    unfold atI
    have hl := (List.getElem?_eq_some_iff.mp e).1
    rw [show (0 : Int) = ((0 : Nat) : Int) from rfl, ix_nat hl]
    exact e
def Gfp (ds : List PyData) (d : PyData) : Prop := ∃ v : List Int, ds = [rowL v] ∧ d = optP (firstP v)
theorem okfirst_place (T : Txt K mg) : FnOk P w K mg base CX0 1 T.afirst_place T.dfirst_place ["row"] (spP K Gfp) := by
  refine pureOk T.Ffirst_place scfirst_place (by rintro _ _ ⟨_, rfl, _⟩; rfl) fun cdv A outer s H E hr => ⟨_, (pss_cons (ps_for PassesOwn.never rfl (pi_enum (by rfl) T.n_enumerate (kpa (kvl 0) pa_nil)) (kgt (n := 2) (by rfl) (kgs (kgl 1 scfirst_place.nd) (kgs (kgl 2 scfirst_place.nd) pgs_nil))) (pss_one (ps_if (pt_cmpR op_ne (kvl 2) pe_int (nomark _)) (pss_one (ps_ret (kvl 1))) pss_nil)))
      (pss_one (ps_ret pe_non))), ?_⟩
  rintro _ _ ⟨v, rfl, rfl⟩ ms σ H Q h k
  have h : At K W0 ms ⟨H, H⟩ [.dat (rowL v), .emp, .emp] σ H := h
  refine q_for h (R := fun _ => [.dat (rowL v), .emp, .emp]) (S := fun i => [.dat (rowL v), .dat (.int (i : Nat)), .dat (.int (ga v i))]) (X := fun i _ => ∀ j, j < i → ga v j = 0)
    (src_enumL (ed_cons (evd_var rfl) ed_nil)) (Le.refl _) (fun _ _ _ j hj => absurd hj (Nat.not_lt_zero j)) (fun i d hd => ?_) (fun Hb i d σ3 H3 hd h3 x3 => ?_) (fun σ3 H3 h3 x3 => ?_) (fun _ _ _ _ _ z => z)
  · obtain ⟨x, hx, rfl⟩ := enumD_get hd
    rw [List.getElem?_map] at hx
    cases e : v[i]? with
    | none => rw [e] at hx; cases hx
    | some n =>
      rw [e] at hx
      cases hx
      rw [ga_some e]
      exact ⟨[1, 2], tg_tup (tgs_cons tg_name (tgs_cons tg_name tgs_nil)) rfl⟩
  · have hi : i < v.length := by
      have := (List.getElem?_eq_some_iff.mp hd).1
      rw [enumD_len, List.length_map] at this
      exact this
    refine s_if h3 (et_test (ev_neI (evd_var rfl) ev_int)) (fun q H4 h4 _ => ?_) fun q H4 h4 _ => ?_
    · have n : ga v i ≠ 0 := by simpa using q
      refine s_fin h4 (evd_var rfl) fun u H' a o => ?_
      have a2 : At K W0 ms ⟨H, H⟩ [] [] H' := ⟨a.sub, a.live, a.env, a.p, a.xw, a.xw.cut a.sub, a.c⟩
      refine k u H' a2 ?_
      rw [firstP_at x3 hi n]
      exact o
    · have n : ga v i = 0 := by simpa using q
      exact ⟨h4.le (.same (.emp (.emp .nil))), fun j hj => (Nat.lt_succ_iff_lt_or_eq.mp hj).elim (x3 j) fun e => e ▸ n⟩
  · rw [enumD_len, List.length_map] at x3
    refine s_fin h3 ev_non fun u H' a o => k u H' a ?_
    rw [firstP_no x3]
    exact o
end
end Sc

/-! k60, 5: combinations, small judges. -/
namespace Sc
open PySem L2 Fw La
open PyProof.Rows (envOfC)
structure Good (p : Int) (L : Nat) (R : List (List Int)) : Prop where
  P : Prm p
  L0 : 1 ≤ L
  L1 : L ≤ 24
  rl : R.length ≤ 24
  R : ∀ r ∈ R, Res p L r
theorem zip_rows (R : List (List Int)) (c : List Int) : List.zipWith (fun a b => PyData.tuple [a, b]) (R.map rowT) (c.map PyData.int) = (R.zip c).map fun q => .tuple [rowT q.1, .int q.2] := zip_tup _ _
theorem zip_get {R : List (List Int)} {c : List Int} {i : Nat} {d : PyData} (hc : c.length = R.length) (h : ((R.zip c).map fun q => PyData.tuple [rowT q.1, .int q.2])[i]? = some d) : i < R.length ∧ d = .tuple [rowT (R[i]?.getD []), .int (ga c i)] := by
  rw [List.getElem?_map] at h
  cases e : (R.zip c)[i]? with
  | none => rw [e] at h; cases h
  | some q =>
    rw [e] at h
    cases h
    obtain ⟨e1, e2⟩ := List.getElem?_zip_eq_some.mp e
    refine ⟨(List.getElem?_eq_some_iff.mp e1).1, ?_⟩
    rw [e1, ga_some e2]
    rfl
theorem shp_row (v : List Int) : Shp 1 (rowT v) := shp_tuple fun d hd => by
  obtain ⟨n, _, rfl⟩ := List.mem_map.mp hd
  exact shp_int n
section
variable {K : PySem.W.Frag} {W : Wd} {ρ : List Sl} {ta tb : TE}
theorem ev_isB {a b : Bool} (ha : Evd K W ta ρ (.bool a)) (hb : Evd K W tb ρ (.bool b)) : Evd K W (tOp rIsB ta tb) ρ (.bool (decide (a = b))) := ev_op ha hb fun ms H x y _ hx hy Q q => by
  cases hx
  cases hy
  exact ⟨a, b, rfl, rfl, q _ H (Same.refl H) (.bl _)⟩
end
section
variable {P : Program} {w : World} {K : PySem.W.Frag} {mg : Str → Option Value} {base : Heap}
def Gcb (ds : List PyData) (d : PyData) : Prop := ∃ (p : Int) (L : Nat) (R : List (List Int)) (c : List Int), Good p L R ∧ Res p R.length c ∧ ds = [.int p, .int (L : Int), rowsT R, rowT c] ∧ d = rowT (mixL p L R c)
theorem okcombination (T : Txt K mg) : FnOk P w K mg base CX0 2 T.acombination T.dcombination ["prime", "length", "rows", "coefficients"] (spP K Gcb) := by
  refine pureOk T.Fcombination sccombination (by rintro _ _ ⟨_, _, _, _, _, _, rfl, _⟩; rfl) fun cdv A outer s H E hr => ⟨_, (pss_cons (ksl 4 sccombination.nd (pe_op (r := rRepA K) op_repA (pe_tup (kpa pe_int pa_nil)) (kvl 1)))
      (pss_cons (ps_for PassesOwn.never rfl (show PI _ _ _ (RZ.iZipA K _) from kzip T.n_zip (kpa (kvl 2) (kpa (kvl 3) pa_nil))) (kgt (n := 2) (by rfl) (kgs (kgl 5 sccombination.nd) (kgs (kgl 6 sccombination.nd) pgs_nil))) (pss_one (ksl 4 sccombination.nd (kTy (r := rTupOf K) call_tuple_of T.n_tuple (kpa (kcall (okadded T) (hr.mono (by decide)) T.g_added T.k_added T.b_added (kpa (kvl 0) (kpa (kvl 4) (kpa (kvl 6) (kpa (kvl 5) pa_nil))))) pa_nil)))))
      (pss_one (ps_ret (kvl 4))))), ?_⟩
  rintro _ _ ⟨p, L, R, c, G, rc, rfl, rfl⟩ ms σ H Q h k
  have h : At K W0 ms ⟨H, H⟩ [.dat (.int p), .dat (.int (L : Int)), .dat (rowsT R), .dat (rowT c), .emp, .emp, .emp] σ H := h
  have lo := G.P.lo
  have hi := G.P.hi
  have l1 := G.L1
  have rl := G.rl
  refine q_asg h (evd_eq (ev_repT (n := L) (ev_tup (ed_cons ev_int ed_nil) (by show 1 ≤ 100000; decide)) (evd_var rfl) (by omega)) (e := rowT (List.replicate L 0)) (by unfold rowT; rw [List.map_replicate])) fun σ1 H1 h1 _ => ?_
  dsimp only [List.set] at h1
  have up := fun b hb => comb_upto (p := p) (L := L) (by omega) G.R rc.len b hb
  refine q_for h1 (R := fun i => [.dat (.int p), .dat (.int (L : Int)), .dat (rowsT R), .dat (rowT c), .dat (rowT (((R.zip c).take i).foldl (fun f x => addL p f x.2 x.1) (List.replicate L 0))), .emp, .emp]) (S := fun i => [.dat (.int p), .dat (.int (L : Int)), .dat (rowsT R), .dat (rowT c), .dat (rowT (((R.zip c).take i).foldl (fun f x => addL p f x.2 x.1) (List.replicate L 0))), .dat (rowT (R[i]?.getD [])), .dat (.int (ga c i))]) (X := fun _ _ => True)
    (zip_rows R c ▸ src_zipT (ed_cons (evd_var rfl) (ed_cons (evd_var rfl) ed_nil))) (Le.refl _) (fun _ _ _ => trivial) (fun i d hd => ?_) (fun Hb i d σ3 H3 hd h3 _ => ?_) (fun σ3 H3 h3 _ => ?_) (fun _ _ _ _ _ z => z)
  · obtain ⟨hi, ez⟩ := zip_get rc.len hd
    subst ez
    exact ⟨[5, 6], tg_tup (tgs_cons tg_name (tgs_cons tg_name tgs_nil)) rfl⟩
  · obtain ⟨hi, ez⟩ := zip_get rc.len hd
    obtain ⟨r1, _⟩ := up i (by omega)
    have ra := rc.at hi
    have rr : Res p L (R[i]?.getD []) := by
      rw [List.getElem?_eq_getElem hi]
      exact G.R _ (List.getElem_mem hi)
    refine s_asg h3 (evd_eq (ev_tupL (ev_added (b := false) (evd_var rfl) (evd_var rfl) (evd_var rfl) (evd_var rfl) (by omega) (by omega) (by omega) (by rw [r1.len]; omega))) (e := rowT _) rfl) fun σ4 H4 h4 _ => ?_
    dsimp only [List.set] at h4
    have ez2 : (R.zip c)[i]? = some (R[i]?.getD [], ga c i) := List.getElem?_zip_eq_some.mpr ⟨(by rw [List.getElem?_eq_getElem hi]; rfl), ga_lt (by rw [rc.len]; exact hi)⟩
    have et : (R.zip c).take (i + 1) = (R.zip c).take i ++ [(R[i]?.getD [], ga c i)] := by
      rw [List.take_add_one, ez2]
      rfl
    rw [et, List.foldl_append]
    exact ⟨h4.le (.same (.same (.same (.same (.same (.emp (.emp .nil))))))), trivial⟩
  · rw [List.length_map] at h3
    refine s_fin h3 (evd_var rfl) fun v H' a o => k v H' a ?_
    rw [List.take_length] at o
    rw [← comb_mix (by omega) G.R rc.len]
    exact o
def Gmx (ds : List PyData) (d : PyData) : Prop := ∃ (p : Int) (L : Nat) (R : List (List Int)) (c : List Int) (b : Bool), Good p L R ∧ Res p R.length c ∧ ds = [.int p, .int (L : Int), rowsT R, sq b (c.map .int)] ∧ d = rowT (mixL p L R c)
theorem atI_ga {v : List Int} {i : Nat} (h : i < v.length) : atI (v.map PyData.int) (i : Int) = some (.int (ga v i)) := by
  unfold atI
  rw [ix_nat (by rw [List.length_map]; exact h)]
  show (v.map PyData.int)[i]? = _
  rw [List.getElem?_map, ga_lt h]
  rfl
theorem ok_law_se_mixed (T : Txt K mg) : FnOk P w K mg base CX0 1 T.a_law_se_mixed T.d_law_se_mixed ["p", "length", "rows", "coefficients"] (spP K Gmx) := by
  refine pureOk T.F_law_se_mixed sc_law_se_mixed (by rintro _ _ ⟨_, _, _, _, _, _, _, rfl, _⟩; rfl) fun cdv A outer s H E hr => ⟨_, (pss_one (ps_ret (kTy (r := rTupOf K) call_tuple_of T.n_tuple (kpa (pe_lc (own := [("place", 6)]) (g := (gName 6)) (tt := tYes) (by rfl) sc_law_se_mixed.nd (krg1 T.n_range (kpa (kvl 1) pa_nil)) (blkOk_by (by kernel_rfl)) (fun _ _ _ _ _ => (kgc 6 sc_law_se_mixed.nd)) (fun _ _ _ _ _ => pts_nil) (fun _ _ _ _ _ => (pe_op op_mod (kB (r := rSum K) (cr_sum rfl) T.n_sum (kpa (pe_lc (own := [("row", 4), ("times", 5)]) (g := (gTup K 2 (gCons (gName 4) (gCons (gName 5) gNil)))) (tt := tYes) (by rfl) sc_law_se_mixed.nd (show PI _ _ _ (iZipX K _) from pi_zipX T.n_zip (kpa (kvc 2) (kpa (kvc 3) pa_nil))) (blkOk_by (by kernel_rfl)) (fun _ _ _ _ _ => (kgt (n := 2) (by rfl) (kgs (kgl 4 sc_law_se_mixed.nd) (kgs (kgl 5 sc_law_se_mixed.nd) pgs_nil)))) (fun _ _ _ _ _ => pts_nil) (fun _ _ _ _ _ => (pe_op op_mul (pe_ix (r := rIxT K) ix_tup (kvl 4) (kvc 6) (fun _ _ => rfl)) (kvl 5)))) pa_nil)) (kvc 0)))) pa_nil)))), ?_⟩
  rintro _ _ ⟨p, L, R, c, b, G, rc, rfl, rfl⟩ ms σ H Q h k
  have h : At K W0 ms ⟨H, H⟩ [.dat (.int p), .dat (.int (L : Int)), .dat (rowsT R), .dat (sq b (c.map .int)), .emp, .emp, .emp] σ H := h
  have lo := G.P.lo
  have hi2 := G.P.hi
  have l1 := G.L1
  have rl := G.rl
  refine s_fin h (evd_eq (ev_tupL (ev_lc0 (j := 6) (xs := List.range L) (enc := fun i => .int (i : Nat)) (f := fun i => .int ((List.zipWith (fun row t => ga row i * t) R c).sum % p)) (by
    have := src_range (K := K) (W := W0) (ρ := [.dat (.int p), .dat (.int (L : Int)), .dat (rowsT R), .dat (sq b (c.map .int)), .emp, .emp, .emp]) (n := (L : Int)) (ed_cons (evd_var (i := 1) rfl) ed_nil) (by omega) (by omega)
    rwa [Int.toNat_natCast] at this) (by rw [List.length_range]; omega) fun i hi => ?_)) ?_) k
  · have il : i < L := List.mem_range.mp hi
    refine ev_mod (evd_eq (ev_sum (ns := (R.zip c).map fun q => ga q.1 i * q.2) (ev_lcN (xs := R.zip c) (enc := fun q => .tuple [rowT q.1, .int q.2]) (f := fun q => .int (ga q.1 i * q.2)) (S := fun q => [.dat (.int p), .dat (.int (L : Int)), .dat (rowsT R), .dat (sq b (c.map .int)), .dat (rowT q.1), .dat (.int q.2), .dat (.int (i : Nat))])
      (zip_rows R c ▸ src_zipX (b1 := false) (b2 := b) (ed_cons (evd_var rfl) (ed_cons (evd_var rfl) ed_nil))) (by rw [List.length_zip]; omega) (fun q hq => ⟨[4, 5], tg_tup (tgs_cons tg_name (tgs_cons tg_name tgs_nil)) rfl, fun j z => z⟩) fun q hq => ?_) (by rw [List.map_map]; rfl)) (by rw [List.zip_eq_zipWith, List.map_zipWith])) (evd_var rfl) (by omega)
    have mq := List.of_mem_zip hq
    have rq := G.R q.1 mq.1
    exact ev_mul (ev_ixT (evd_var rfl) (evd_var rfl) (atI_ga (by rw [rq.len]; exact il))) (evd_var rfl) (.inr (small_i (rc.bd q.2 mq.2) hi2))
  · unfold rowT mixL
    rw [List.map_map]
    rfl
def Gsp (ds : List PyData) (d : PyData) : Prop := ds = [] ∧ d = rowT primesL
theorem ok_law_se_primes (T : Txt K mg) : FnOk P w K mg base CX0 1 T.a_law_se_primes T.d_law_se_primes [] (spP K Gsp) := by
  refine pureOk T.F_law_se_primes sc_law_se_primes (by rintro _ _ ⟨rfl, _⟩; rfl) fun cdv A outer s H E hr => ⟨_, (pss_one (ps_ret (kTy (r := rTupOf K) call_tuple_of T.n_tuple (kpa (pe_lc (own := [("number", 0)]) (g := (gName 0)) (by rfl) sc_law_se_primes.nd (krg2 T.n_range (kpa pe_int (kpa pe_int pa_nil))) (blkOk_by (by kernel_rfl)) (fun _ _ _ _ _ => (kgc 0 sc_law_se_primes.nd)) (fun _ _ _ _ _ => (pts_one (pt_cmpR (r := rEqD K) (op_eqD hr.units) (pe_lc (own := [("part", 1)]) (g := (gName 1)) (by rfl) sc_law_se_primes.nd (show PI _ _ _ (iTup K _) from pi_tup (pe_tup (kpa pe_int (kpa pe_int (kpa pe_int (kpa pe_int pa_nil)))))) (blkOk_by (by kernel_rfl)) (fun _ _ _ _ _ => (kgl 1 sc_law_se_primes.nd)) (fun _ _ _ _ _ => (pts_one (pt_cmpR op_eq (pe_op op_mod (kvc 0) (kvl 1)) pe_int (nomark _)))) (fun _ _ _ _ _ => pe_int)) (pe_lst pa_nil) (nomark _)))) (fun _ _ _ _ _ => (kvc 0))) pa_nil)))), ?_⟩
  rintro _ _ ⟨rfl, rfl⟩ ms σ H Q h k
  refine s_fin h (evd_eq (ev_tupL (ev_lc1 (xs := List.range (98 - 11 : Int).toNat) (enc := fun i => .int (11 + (i : Int))) (f := fun i => .int (11 + (i : Int))) (p := fun i : Nat => [2, 3, 5, 7].all fun k : Int => !decide ((11 + (i : Int)) % k = 0)) (src_range2 (ed_cons ev_int (ed_cons ev_int ed_nil)) (by decide) (by decide) (by decide) (by decide)) (by decide) (fun i hi => ?_) fun i hi _ => evd_var rfl)) ?_) k
  · refine et_eq (et_test (ev_eqD (ev_lc1 (xs := [(2 : Int), 3, 5, 7]) (enc := PyData.int) (f := fun _ => .int 1) (p := fun k => decide ((11 + (i : Int)) % k = 0)) (src_tup (ev_tup (ed_cons ev_int (ed_cons ev_int (ed_cons ev_int (ed_cons ev_int ed_nil)))) (by show 4 ≤ 100000; decide))) (by decide) (fun k hk => ?_) fun _ _ _ => ev_int) (ev_lst ed_nil (Nat.zero_le _)) ones_shaped nil_shaped)) ?_
    · refine et_test (ev_eqI (ev_mod (evd_var rfl) (evd_var rfl) ?_) ev_int)
      simp only [List.mem_cons, List.not_mem_nil, or_false] at hk
      omega
    · generalize ([(2 : Int), 3, 5, 7]) = xs
      have e : ∀ zs : List Int, PyData.eqv (.list (zs.map fun _ => PyData.int 1)) (.list []) = zs.isEmpty := fun zs => by cases zs <;> rfl
      rw [e]
      induction xs with
      | nil => rfl
      | cons x xs ih =>
        rw [List.all_cons, ← ih]
        cases q : decide ((11 + (i : Int)) % x = 0) with
        | true => rw [List.filter_cons, if_pos q]; rfl
        | false => rw [List.filter_cons, if_neg (by rw [q]; decide)]; rfl
  · unfold rowT
    rw [← primes_are, List.map_map]
    rfl
def Gsay (ds : List PyData) (d : PyData) : Prop := ∃ a b : Bool, ds = [.bool a, .bool b] ∧ d = .bool (decide (a = b))
theorem ok_law_se_says (T : Txt K mg) : FnOk P w K mg base CX0 1 T.a_law_se_says T.d_law_se_says ["found", "due"] (spP K Gsay) := by
  refine pureOk T.F_law_se_says sc_law_se_says (by rintro _ _ ⟨_, _, rfl, _⟩; rfl) fun cdv A outer s H E hr => ⟨_, (pss_one (ps_ret (pe_ifExp (kval (kvl 1)) (pe_cmpR op_isBl (kvl 0) pe_bl (nomark _)) (pe_cmpR op_isBl (kvl 0) pe_bl (nomark _))))), ?_⟩
  rintro _ _ ⟨a, b, rfl, rfl⟩ ms σ H Q h k
  exact s_fin h (ev_if (et_B (evd_var rfl)) (fun q => by subst q; exact ev_isB (evd_var rfl) ev_bl) fun q => by subst q; exact ev_isB (evd_var rfl) ev_bl) k
def Gone (ds : List PyData) (d : PyData) : Prop := ∃ (a b c : Bool) (n : Nat), n < 3 ∧ ds = [.list [.bool a, .bool b, .bool c], .int (n : Int)] ∧ d = .bool (decide (a = decide (n = 0)) && decide (b = decide (n = 1)) && decide (c = decide (n = 2)))
theorem ok_law_se_one (T : Txt K mg) : FnOk P w K mg base CX0 1 T.a_law_se_one T.d_law_se_one ["marks", "at"] (spP K Gone) := by
  refine pureOk T.F_law_se_one sc_law_se_one (by rintro _ _ ⟨_, _, _, _, _, rfl, _⟩; rfl) fun cdv A outer s H E hr => ⟨_, (pss_one (ps_ret (pe_cmpR (r := rEqD K) (op_eqD hr.units) (kvl 0) (pe_lc (own := [("place", 2)]) (g := (gName 2)) (tt := tYes) (by rfl) sc_law_se_one.nd (krg1 T.n_range (kpa (kB (r := rLenQ K) call_len_seq T.n_len (kpa (kvl 0) pa_nil)) pa_nil)) (blkOk_by (by kernel_rfl)) (fun _ _ _ _ _ => (kgl 2 sc_law_se_one.nd)) (fun _ _ _ _ _ => pts_nil) (fun _ _ _ _ _ => (pe_cmpR op_eq (kvl 2) (kvc 1) (nomark _)))) (nomark _)))), ?_⟩
  rintro _ _ ⟨a, b, c, n, hn, rfl, rfl⟩ ms σ H Q h k
  have shp : ∀ x y z : Bool, SeqAt.shaped (.list [.bool x, .bool y, .bool z]) = true := fun x y z => (shp_list (n := 0) (by simp [shp_bool])).shaped (by decide)
  refine s_fin h (evd_eq (ev_eqD (evd_var rfl) (evd_eq (ev_lc0 (j := 2) (xs := List.range (3 : Int).toNat) (enc := fun i => .int (i : Nat)) (f := fun i => .bool (decide ((i : Int) = (n : Int)))) (src_range (n := 3) (ed_cons (evd_eq (ev_lenL (ds := [.bool a, .bool b, .bool c]) (evd_var rfl)) rfl) ed_nil) (by decide) (by decide)) (by decide) fun i _ => ev_eqI (evd_var rfl) (evd_var rfl)) (e := .list [.bool (decide ((0 : Int) = n)), .bool (decide ((1 : Int) = n)), .bool (decide ((2 : Int) = n))]) rfl) (shp _ _ _) (shp _ _ _)) ?_) k
  have hn3 : n = 0 ∨ n = 1 ∨ n = 2 := by omega
  rcases hn3 with rfl | rfl | rfl <;> cases a <;> cases b <;> cases c <;> rfl
def isPair (word : Str) (p : Int) (L : Nat) : PyData → Bool
  | .tuple [.str s, y] => decide (s = word) && isRow p L y
  | _ => false
def two? : PyData → Bool
  | .tuple ds => decide (ds.length = 2)
  | _ => false
def hasS : PyData → Bool
  | .tuple [.str _, _] => true
  | _ => false
def Gpa (ds : List PyData) (d : PyData) : Prop := ∃ (word : Str) (p : Int) (L : Nat) (x : PyData), L ≤ 1000 ∧ ds = [x, .str word, .int p, .int (L : Int)] ∧ d = .bool (isPair word p L x)
theorem ok_law_se_is_pair (T : Txt K mg) : FnOk P w K mg base CX0 3 T.a_law_se_is_pair T.d_law_se_is_pair ["thing", "word", "p", "length"] (spP K Gpa) := by
  refine pureOk T.F_law_se_is_pair sc_law_se_is_pair (by rintro _ _ ⟨_, _, _, _, _, rfl, _⟩; rfl) fun cdv A outer s H E hr => ⟨_, (pss_cons (ps_if (PW.pt (pw_or (pt_not (kval (kB (r := rIsi K) call_isi T.n_isinstance (kpa (kvl 0) (kpa (kty (T := "tuple") T.n_tuple) pa_nil))))) (pw_or (pt_cmpR op_ne (kB (r := rLenQ K) call_len_seq T.n_len (kpa (kvl 0) pa_nil)) pe_int (nomark _)) (pw_or1 (pt_not (kval (kB (r := rIsi K) call_isi T.n_isinstance (kpa (pe_ix (r := rIxT K) ix_tup (kvl 0) pe_int (fun _ _ => rfl)) (kpa (kty (T := "str") T.n_str) pa_nil))))))))) (pss_one (ps_ret pe_bl)) pss_nil)
      (pss_one (ps_ret (pe_and (pe_cmpR op_eq (pe_ix (r := rIxT K) ix_tup (kvl 0) pe_int (fun _ _ => rfl)) (kvl 1) (nomark _)) (pe_one (kcall (ok_law_se_is_row T) (hr.mono (by decide)) T.g__law_se_is_row T.k__law_se_is_row T.b__law_se_is_row (kpa (kvl 2) (kpa (kvl 3) (kpa (pe_ix (r := rIxT K) ix_tup (kvl 0) pe_int (fun _ _ => rfl)) pa_nil))))))))), ?_⟩
  rintro _ _ ⟨word, p, L, x, hL, rfl, rfl⟩ ms σ H Q h k
  refine q_when (b := !isTup x || (!two? x || !hasS x)) h (et_or (et_not (et_B (ev_isTup (evd_var rfl)))) fun q => et_or (a := !two? x) ?_ fun q2 => ?_) (fun q H1 h1 _ => ?_) fun q H1 h1 _ => ?_
  · cases x with
    | tuple ds => exact et_eq (et_test (ev_neI (ev_lenT (evd_var rfl)) ev_int)) (by show (!decide ((ds.length : Int) = ((2 : Nat) : Int))) = _; rw [nat_eq]; rfl)
    | _ => cases q
  · cases x with
    | tuple ds =>
      have l2 : ds.length = 2 := by simpa [two?] using q2
      obtain ⟨a, b, rfl⟩ : ∃ a b, ds = [a, b] := by
        match ds, l2 with
        | [a, b], _ => exact ⟨a, b, rfl⟩
      have e : ∀ {te : TE} {ρ : List Sl}, Evd K W0 te ρ a → EvT K W0 (tB (tCB (rIsi K) (tCons te (tCons (tC (.ty "str")) tNil)))) ρ (hasS (.tuple [a, b])) := fun {te ρ} e => by
        cases a with
        | int n => exact et_B (ev_isi e kb_int_str)
        | bool n => exact et_B (ev_isi e kb_bool_str)
        | none => exact et_B (ev_isi e kb_NoneType_str)
        | str x => exact et_B (ev_isi e kb_str_str)
        | list x => exact et_B (ev_isi e kb_list_str)
        | tuple x => exact et_B (ev_isi e kb_tuple_str)
        | dict x => exact et_B (ev_isi e kb_dict_str)
      exact et_not (e (ev_ixT (evd_var rfl) ev_int rfl))
    | _ => cases q
  · refine s_fin h1 (evd_eq ev_bl ?_) k
    have z : isTup x = false ∨ two? x = false ∨ hasS x = false := by simpa using q
    have z2 : hasS x = false := by
      cases hx : hasS x with
      | false => rfl
      | true =>
        rcases z with z | z | z
        · unfold hasS at hx
          split at hx
          · simp [isTup] at z
          · cases hx
        · unfold hasS at hx
          split at hx
          · simp [two?] at z
          · cases hx
        · rw [hx] at z; cases z
    unfold isPair
    split
    · simp [hasS] at z2
    · rfl
  · have z : hasS x = true := by
      cases hx : hasS x with
      | true => rfl
      | false => rw [hx] at q; simp at q
    unfold hasS at z
    split at z
    · refine s_fin h1 (ev_andV (ev_eqS (ev_ixT (evd_var rfl) ev_int rfl) (evd_var rfl)) fun q2 => ev_call (ed_cons (evd_var rfl) (ed_cons (evd_var rfl) (ed_cons (ev_ixT (evd_var rfl) ev_int rfl) ed_nil))) ⟨p, L, _, hL, rfl, rfl⟩) k
    · cases z
end
end Sc

/-! k60, 6: the class of reduced rows. -/
namespace Sc
open PySem L2 Fw La
open PyProof.Rows (envOfC)
structure BA where
  x : Addr
  lp : Addr
  lr : Addr
  r : Addr
  m : Addr
  dx : Addr
  p : Int
  st : BSt
  vr : List V
def fsB (S : BA) : List (Str × V) := [("prime", .int S.p), ("pivots", .ref S.lp), ("rows", .ref S.r), ("made", .ref S.m), ("relations", .ref S.lr)]
def nats (l : List Nat) : List V := l.map fun (n : Nat) => .int (n : Int)
def rowsL (R : List (List Int)) : PyData := .list (R.map rowL)
theorem lk_prime (S : BA) : (fsB S).lookup ("prime" : Str) = some (.int S.p) := rfl
theorem lk_pivots (S : BA) : (fsB S).lookup ("pivots" : Str) = some (.ref S.lp) := by with_unfolding_all rfl
theorem lk_rows (S : BA) : (fsB S).lookup ("rows" : Str) = some (.ref S.r) := by with_unfolding_all rfl
theorem lk_made (S : BA) : (fsB S).lookup ("made" : Str) = some (.ref S.m) := by with_unfolding_all rfl
theorem lk_rel (S : BA) : (fsB S).lookup ("relations" : Str) = some (.ref S.lr) := by with_unfolding_all rfl
theorem lk_take (S : BA) : (fsB S).lookup ("take" : Str) = none := by with_unfolding_all rfl
theorem lk_reduced (S : BA) : (fsB S).lookup ("reduced" : Str) = none := by with_unfolding_all rfl
theorem lk_apart (S : BA) : (fsB S).lookup ("apart" : Str) = none := by with_unfolding_all rfl
theorem pm_pr : ¬ (("prime" : Str) = "made") := by decide +kernel
theorem pv_pr : ¬ (("pivots" : Str) = "made") := by decide +kernel
theorem rw_pr : ¬ (("rows" : Str) = "made") := by decide +kernel
theorem pm_rw : ¬ (("prime" : Str) = "rows") := by decide +kernel
theorem pv_rw : ¬ (("pivots" : Str) = "rows") := by decide +kernel
theorem put_made (S : BA) (a : Addr) (st : BSt) : putF "made" (.ref a) (fsB S) = fsB { S with m := a, st := st } := by
  simp [putF, fsB, pm_pr, pv_pr, rw_pr]
theorem put_rows (S : BA) (a : Addr) (st : BSt) : putF "rows" (.ref a) (fsB S) = fsB { S with r := a, st := st } := by
  simp [putF, fsB, pm_rw, pv_rw]
def WB (K : PySem.W.Frag) (C : Addr) (S : BA) : Wd where
  ws := [S.x, S.lp, S.lr]
  P := fun H => H S.x = some (.ins C S.dx (fsB S)) ∧ H S.lp = some (.lst (nats S.st.pv)) ∧ H S.lr = some (.lst S.vr)
  sup := fun H H' k ⟨h1, h2, h3⟩ => ⟨k _ (by simp) _ h1, k _ (by simp) _ h2, k _ (by simp) _ h3⟩
  C := fun H => Dp K H (.ref S.r) (rowsL S.st.rows) ∧ Dp K H (.ref S.m) (rowsL S.st.made)
  mono := fun H H' s h => ⟨dp_mono s _ _ h.1, dp_mono s _ _ h.2⟩
section
variable {K : PySem.W.Frag} {C : Addr} {S : BA} {ms : List Addr} {B : Bs} {H H' : Hp} {ρ : List Sl} {σ : L2.St} {i : Nat} {ta te : TE}
theorem wb_same (x : XW (WB K C S).ws H H') (p : (WB K C S).P H) (p' : (WB K C S).P H') : Same H H' := fun a o e => by
  by_cases h : a ∈ (WB K C S).ws
  · have h' : a ∈ [S.x, S.lp, S.lr] := h
    simp only [List.mem_cons, List.not_mem_nil, or_false] at h'
    rcases h' with rfl | rfl | rfl
    · rw [p.1] at e; rw [p'.1]; exact e
    · rw [p.2.1] at e; rw [p'.2.1]; exact e
    · rw [p.2.2] at e; rw [p'.2.2]; exact e
  · exact x a o h e
theorem ev_fldB {f : Str} {v : V} {d : PyData} (cl : Cls K C) (no : NoAttr K C f) (hl : (fsB S).lookup f = some v) (h : ρ[i]? = some (.raw (.ref S.x))) (hd : ∀ Hc, (WB K C S).C Hc → Dp K Hc v d) : Evd K (WB K C S) (tFld K (tVar i) f) ρ d := fun ms B σ H a Q q => by
  obtain ⟨w, e, o⟩ := a.env.get h (by intro q; cases q)
  obtain rfl : w = .ref S.x := o
  exact ⟨_, e, S.x, C, S.dx, fsB S, v, rfl, a.p.1, cl, no, hl, q v H a (.refl H) (hd _ a.c)⟩
def zk (S : BA) (i : Nat) : Nat × List Int × List Int := (zip3 S.st)[i]?.getD (0, [], [])
def encZ (z : Nat × List Int × List Int) : PyData := .tuple [.int (z.1 : Int), rowL z.2.1, rowL z.2.2]
theorem dpa_at {vs : List V} {R : List (List Int)} {o : List Int} {v : V} {i : Nat} (h : DpAll K H vs (R.map rowL)) (e : vs[i]? = some v) (er : R[i]? = some o) : Dp K H v (rowL o) := by
  obtain ⟨d, q, od⟩ := dpa_get h e
  rw [List.getElem?_map, er] at q
  cases q
  exact od
theorem nats_at {l : List Nat} {v : V} {i k : Nat} (e : (nats l)[i]? = some v) (el : l[i]? = some k) : v = .int (k : Int) := by
  unfold nats at e
  rw [List.getElem?_map, el] at e
  cases e
  rfl
theorem src_zip3B (cl : Cls K C) (n1 : NoAttr K C "pivots") (n2 : NoAttr K C "rows") (n3 : NoAttr K C "made") (h : ρ[i]? = some (.raw (.ref S.x))) (lr : S.st.rows.length = S.st.pv.length) (lm : S.st.made.length = S.st.pv.length) :
    SrcP K (WB K C S) (iZip3 K (tCons (tFld K (tVar i) "pivots") (tCons (tFld K (tVar i) "rows") (tCons (tFld K (tVar i) "made") tNil)))) ρ ((zip3 S.st).map encZ) := fun ms B σ H a R q => by
  obtain ⟨w, e, o⟩ := a.env.get h (by intro q; cases q)
  obtain rfl : w = .ref S.x := o
  obtain ⟨p1, p2, p3⟩ := a.p
  obtain ⟨c1, c2⟩ := a.c
  unfold rowsL at c1 c2
  cases c1 with
  | @lst _ v1 _ h1 d1 =>
    cases c2 with
    | @lst _ v2 _ h2 d2 =>
      have l1 := dpa_len d1
      have l2 := dpa_len d2
      rw [List.length_map] at l1 l2
      refine ⟨_, e, S.x, C, S.dx, fsB S, _, rfl, p1, cl, n1, lk_pivots S, _, e, S.x, C, S.dx, fsB S, _, rfl, p1, cl, n2, lk_rows S, _, e, S.x, C, S.dx, fsB S, _, rfl, p1, cl, n3, lk_made S, S.lp, S.r, S.m, _, v1, v2, rfl, SqL.of p2, sql_mono cut_le h1, sql_mono cut_le h2, ?_⟩
      refine q _ H a (.refl H) ⟨_, YThree (nats S.st.pv) v1 v2, walk_zip3 ?_, fun H2 s P2 => ⟨⟨SqL.of P2.2.1, sql_mono (s.trans cut_le) h1, sql_mono (s.trans cut_le) h2⟩, fun j x H3 l y => ?_⟩⟩
      · unfold nats zip3
        rw [List.length_map, List.length_map, List.length_zip, List.length_zip]
        omega
      · obtain ⟨T, y1, y2, y3, rfl, hT, rfl, e1, e2, e3⟩ := y
        refine ⟨same_put hT, fun d hd => ?_⟩
        rw [List.getElem?_map] at hd
        cases ez : (zip3 S.st)[j]? with
        | none => rw [ez] at hd; cases hd
        | some z =>
          rw [ez] at hd
          cases hd
          obtain ⟨z1, z2⟩ := List.getElem?_zip_eq_some.mp ez
          obtain ⟨z3, z4⟩ := List.getElem?_zip_eq_some.mp z2
          rw [nats_at e1 z1]
          exact Sl.new_tup (ds := [.int (z.1 : Int), rowL z.2.1, rowL z.2.2]) l hT (.cons (.int _) (.cons (dp_mono s _ _ (dpa_at d1 e2 z3)) (.cons (dp_mono s _ _ (dpa_at d2 e3 z4)) .nil)))
def encP (z : Nat × List Int) : PyData := .tuple [.int (z.1 : Int), rowL z.2]
theorem src_zipB (cl : Cls K C) (n1 : NoAttr K C "pivots") (n2 : NoAttr K C "rows") (h : ρ[i]? = some (.raw (.ref S.x))) :
    SrcP K (WB K C S) (RZ.iZipA K (tCons (tFld K (tVar i) "pivots") (tCons (tFld K (tVar i) "rows") tNil))) ρ ((S.st.pv.zip S.st.rows).map encP) := fun ms B σ H a R q => by
  obtain ⟨w, e, o⟩ := a.env.get h (by intro q; cases q)
  obtain rfl : w = .ref S.x := o
  obtain ⟨p1, p2, p3⟩ := a.p
  obtain ⟨c1, c2⟩ := a.c
  unfold rowsL at c1
  cases c1 with
  | @lst _ v1 _ h1 d1 =>
    have l1 := dpa_len d1
    rw [List.length_map] at l1
    refine ⟨_, e, S.x, C, S.dx, fsB S, _, rfl, p1, cl, n1, lk_pivots S, _, e, S.x, C, S.dx, fsB S, _, rfl, p1, cl, n2, lk_rows S, S.lp, S.r, _, v1, rfl, .inl ⟨SqL.of p2, sql_mono cut_le h1, ?_⟩⟩
    refine q _ H a (.refl H) ⟨_, YPair (fun i => (nats S.st.pv)[i]?) (fun i => v1[i]?), walk_zip ?_, fun H2 s P2 => ⟨⟨SqL.of P2.2.1, sql_mono (s.trans cut_le) h1⟩, fun j x H3 l y => ?_⟩⟩
    · unfold nats
      rw [List.length_map, List.length_map, List.length_zip]
      omega
    · obtain ⟨T, y1, y2, rfl, hT, rfl, e1, e2⟩ := y
      refine ⟨same_put hT, fun d hd => ?_⟩
      rw [List.getElem?_map] at hd
      cases ez : (S.st.pv.zip S.st.rows)[j]? with
      | none => rw [ez] at hd; cases hd
      | some z =>
        rw [ez] at hd
        cases hd
        obtain ⟨z1, z2⟩ := List.getElem?_zip_eq_some.mp ez
        rw [nats_at e1 z1]
        exact Sl.new_tup (ds := [.int (z.1 : Int), rowL z.2]) l hT (.cons (.int _) (.cons (dp_mono s _ _ (dpa_at d1 e2 z2)) .nil))
/-! methods that only read -/
def spM (K : PySem.W.Frag) (C : Addr) (G : BA → List PyData → PyData → Prop) : Sp := fun vs H Q _ => ∃ (S : BA) (ms : List Addr) (ds : List PyData) (d : PyData) (ws : List V), vs = .ref S.x :: ws ∧ (∀ a ∈ (WB K C S).ws, a ∈ ms) ∧ Live ms H ∧ (WB K C S).P H ∧ (WB K C S).C (cut ms H) ∧ DpAll K (cut ms H) ws ds ∧ G S ds d ∧
  ∀ v H', Same H H' → Dp K (cut ms H') v d → Q v H'
theorem ev_meth {m : Str} {G : BA → List PyData → PyData → Prop} {ds : List PyData} {d : PyData} {t : TA} {E : XK} (h : ρ[i]? = some (.raw (.ref S.x))) (lk : (fsB S).lookup m = none) (ha : EvD K (WB K C S) t ρ ds) (g : G S ds d) : Evd K (WB K C S) (tMeth C m (spM K C G) [] E (tVar i) t) ρ d := fun ms B σ H a Q q => by
  obtain ⟨w, e, o⟩ := a.env.get h (by intro q; cases q)
  obtain rfl : w = .ref S.x := o
  refine ⟨_, e, S.x, S.dx, fsB S, rfl, a.p.1, lk, ha ms B σ H a _ fun vs H1 h1 x1 o1 => ?_⟩
  show spM K C G (.ref S.x :: (vs ++ [])) H1 Q E
  rw [List.append_nil]
  exact ⟨S, ms, ds, d, vs, rfl, h1.sub, h1.live, h1.p, h1.c, o1, g, fun v H2 s2 o2 => q v H2 (h1.same s2) (x1.trans (.of_same s2)) o2⟩
section
variable {P : Program} {w : World} {mg : Str → Option Value} {base : Heap}
theorem methOk {x qual : Str} {st : Stmt} {f : Addr} {fd : FuncData} {N ps : List Str} {k : Nat} {G : BA → List PyData → PyData → Prop} (F : Fun K x qual st f fd) (Sc : FnScope N ps (defScope st)) (hG : ∀ S ds d, G S ds d → ds.length + 1 = ps.length)
    (hb : ∀ (cdv : Value) (A : Around) (outer : List Env) (s : Shared) (H : Hp) (E : XK), Room k (A.deeper (envOfC qual (defScope st) s.heap.objs.size f cdv)) →
      ∃ t, PSs (cxOf CX0 P w K mg base N qual (defScope st) f cdv A outer s H E).nox (defBody st) t ∧ ∀ S ds d, G S ds d → ∀ (ms : List Addr) (σ : L2.St) (H : Hp) (Q : VK), At K (WB K C S) ms ⟨H, H⟩ (.raw (.ref S.x) :: (ds.map .dat ++ List.replicate (N.length - (ds.length + 1)) .emp)) σ H →
        (∀ v H', At K (WB K C S) ms ⟨H, H⟩ [] [] H' → Dp K (cut ms H') v d → Q v H') → t { nx := fun _ H' => Q .non H', rt := Q } σ H) : FnOk P w K mg base CX0 (k + 1) f fd ps (spM K C G) := by
  refine F.ok Sc (fun vs H Q E h => ?_) fun cdv A outer s H vs Q E hr h => ?_
  · obtain ⟨S, ms, ds, d, ws, rfl, _, _, _, _, o, g, _⟩ := h
    rw [List.length_cons, dpa_len o, hG S ds d g]
  · obtain ⟨S, ms, ds, d, ws, rfl, sub, l, p, c, o, g, q⟩ := h
    obtain ⟨t, ht, hr⟩ := hb cdv A outer s H E hr
    refine ⟨t, ht, hr S ds d g ms _ H Q ⟨sub, l, ?_, p, .refl H, Same.refl _, c⟩ fun v H' a od => q v H' (wb_same a.xw p a.p) od⟩
    have e : L2.start N (.ref S.x :: ws) = some (.ref S.x) :: (ws.map some ++ List.replicate (N.length - (ds.length + 1)) none) := by
      unfold L2.start
      rw [List.map_cons, List.length_cons, dpa_len o]
      rfl
    rw [e]
    exact env_argsN o
end
end
section
variable {P : Program} {w : World} {K : PySem.W.Frag} {mg : Str → Option Value} {base : Heap}
def Grd (S : BA) (ds : List PyData) (d : PyData) : Prop := ∃ (L k : Nat) (R : List (List Int)) (r m : List Int), InvB S.p L R k S.st ∧ 0 < S.p ∧ S.p ≤ 97 ∧ L ≤ 24 ∧ R.length ≤ 24 ∧ Res S.p L r ∧ Res S.p R.length m ∧ ds = [rowL r, rowL m] ∧ d = .tuple [rowL (redB S.p S.st r m).1, rowL (redB S.p S.st r m).2]
theorem okBasis_reduced (T : Txt K mg) : FnOk P w K mg base CX0 2 T.aBasis_reduced T.dBasis_reduced ["self", "row", "made"] (spM K T.cBasis Grd) := by
  refine methOk T.FBasis_reduced scBasis_reduced (by rintro _ _ _ ⟨_, _, _, _, _, _, _, _, _, _, _, _, rfl, _⟩; rfl) fun cdv A outer s H E hr => ⟨_, (pss_cons (ps_for PassesOwn.never rfl (pi_zip3 T.n_zip (kpa (show PE _ _ (tFld K _ _) from pe_fld (kvl 0) (by kernel_rfl)) (kpa (show PE _ _ (tFld K _ _) from pe_fld (kvl 0) (by kernel_rfl)) (kpa (show PE _ _ (tFld K _ _) from pe_fld (kvl 0) (by kernel_rfl)) pa_nil)))) (kgt (n := 3) (by rfl) (kgs (kgl 3 scBasis_reduced.nd) (kgs (kgl 4 scBasis_reduced.nd) (kgs (kgl 5 scBasis_reduced.nd) pgs_nil)))) (pss_cons (ksl 6 scBasis_reduced.nd (pe_un un_neg (pe_ix (r := rIxL K) ix_list (kvl 1) (kvl 3) (fun _ _ => rfl))))
      (pss_cons (ksl 1 scBasis_reduced.nd (kcall (okadded T) (hr.mono (by decide)) T.g_added T.k_added T.b_added (kpa (show PE _ _ (tFld K _ _) from pe_fld (kvl 0) (by kernel_rfl)) (kpa (kvl 1) (kpa (kvl 6) (kpa (kvl 4) pa_nil))))))
      (pss_one (ksl 2 scBasis_reduced.nd (kcall (okadded T) (hr.mono (by decide)) T.g_added T.k_added T.b_added (kpa (show PE _ _ (tFld K _ _) from pe_fld (kvl 0) (by kernel_rfl)) (kpa (kvl 2) (kpa (kvl 6) (kpa (kvl 5) pa_nil))))))))))
      (pss_one (ps_ret (pe_tup (kpa (kvl 1) (kpa (kvl 2) pa_nil)))))), ?_⟩
  rintro S _ _ ⟨L, k, R, r, m, I, p0, p1, hL, hR, hr, hm, rfl, rfl⟩ ms σ H Q h kk
  have h : At K (WB K T.cBasis S) ms ⟨H, H⟩ [.raw (.ref S.x), .dat (rowL r), .dat (rowL m), .emp, .emp, .emp, .emp] σ H := h
  have zl := I.zlen
  refine q_forP h (R := fun i => [.raw (.ref S.x), .dat (rowL (((zip3 S.st).take i).foldl (redStep S.p) (r, m)).1), .dat (rowL (((zip3 S.st).take i).foldl (redStep S.p) (r, m)).2), .emp, .emp, .emp, .emp])
    (S := fun i => [.raw (.ref S.x), .dat (rowL (((zip3 S.st).take i).foldl (redStep S.p) (r, m)).1), .dat (rowL (((zip3 S.st).take i).foldl (redStep S.p) (r, m)).2), .dat (.int ((zk S i).1 : Int)), .dat (rowL (zk S i).2.1), .dat (rowL (zk S i).2.2), .emp])
    (src_zip3B T.cl_Basis T.no_Basis_pivots T.no_Basis_rows T.no_Basis_made rfl I.lr I.lm) (Le.refl _) (fun i d hd => ?_) (fun Hb i d σ3 H3 hd h3 => ?_) (fun σ3 H3 h3 => ?_)
  · rw [List.getElem?_map] at hd
    cases ez : (zip3 S.st)[i]? with
    | none => rw [ez] at hd; cases hd
    | some z =>
      rw [ez] at hd
      cases hd
      refine ⟨[3, 4, 5], ?_⟩
      unfold zk
      rw [ez]
      exact tg_tup (tgs_cons tg_name (tgs_cons tg_name (tgs_cons tg_name tgs_nil))) rfl
  · have hi : i < (zip3 S.st).length := by
      have := (List.getElem?_eq_some_iff.mp hd).1
      rwa [List.length_map] at this
    have ez : (zip3 S.st)[i]? = some (zk S i) := by
      unfold zk
      rw [List.getElem?_eq_getElem hi]
      rfl
    have hj : i < S.st.pv.length := by omega
    obtain ⟨τ, D⟩ := red_upto I p0 hr hm i (by omega)
    obtain ⟨o, q, eo, _, _, ro, rq⟩ := I.zip hj
    have ezk : zk S i = (pat S.st i, o, q) := Option.some.inj (ez.symm.trans eo)
    have et : (zip3 S.st).take (i + 1) = (zip3 S.st).take i ++ [zk S i] := by
      rw [List.take_add_one, ez]
      rfl
    rw [et, List.foldl_append]
    have r1 := D.r1
    have r2 := D.r2
    generalize ((zip3 S.st).take i).foldl (redStep S.p) (r, m) = rm at h3 r1 r2 ⊢
    rw [ezk] at h3 ⊢
    have hp := I.pl i hj
    have rb := r1.at hp
    have h3 : At K (WB K T.cBasis S) ms ⟨H, Hb⟩ [.raw (.ref S.x), .dat (rowL rm.1), .dat (rowL rm.2), .dat (.int (pat S.st i : Int)), .dat (rowL o), .dat (rowL q), .emp] σ3 H3 := h3
    have fp : ∀ {ρ : List Sl}, ρ[0]? = some (.raw (.ref S.x)) → Evd K (WB K T.cBasis S) (tFld K (tVar 0) "prime") ρ (.int S.p) := fun e => ev_fldB T.cl_Basis T.no_Basis_prime (lk_prime S) e fun _ _ => .int _
    refine q_asg h3 (ev_neg (ev_ixL (evd_var rfl) (evd_var rfl) (atI_ga (by rw [r1.len]; exact hp)))) fun σ4 H4 h4 _ => ?_
    dsimp only [List.set] at h4
    refine q_asg h4 (ev_added (b := true) (a := rm.1) (o := o) (fp rfl) (evd_var rfl) (evd_var rfl) (evd_var rfl) p0 (by omega) (by omega) (by rw [r1.len]; omega)) fun σ5 H5 h5 _ => ?_
    dsimp only [List.set] at h5
    refine s_asg h5 (ev_added (b := true) (a := rm.2) (o := q) (fp rfl) (evd_var rfl) (evd_var rfl) (evd_var rfl) p0 (by omega) (by omega) (by rw [r2.len]; omega)) fun σ6 H6 h6 _ => ?_
    dsimp only [List.set] at h6
    exact h6.le (.same (.same (.same (.emp (.emp (.emp (.emp .nil)))))))
  · rw [List.length_map, List.take_length] at h3
    exact s_fin h3 (ev_tup (ed_cons (evd_var rfl) (ed_cons (evd_var rfl) ed_nil)) (by show 2 ≤ 100000; decide)) kk
end
end Sc

/-! k60, 7: the vector apart. -/
namespace Sc
open PySem L2 Fw La
open PyProof.Rows (envOfC)
theorem apart_len {rest : List Int} {place : Nat} {p : Int} {xs : List (Nat × List Int)} {f : List Int} : (xs.foldl (apartStep rest place p) f).length = f.length := by
  induction xs generalizing f with
  | nil => rfl
  | cons x xs ih =>
    rw [List.foldl_cons, ih]
    unfold apartStep
    rw [List.length_set]
section
variable {P : Program} {w : World} {K : PySem.W.Frag} {mg : Str → Option Value} {base : Heap}
def Gap (S : BA) (ds : List PyData) (d : PyData) : Prop := ∃ (L k place : Nat) (R : List (List Int)) (rest : List Int), InvB S.p L R k S.st ∧ Prm S.p ∧ L ≤ 24 ∧ R.length ≤ 24 ∧ Res S.p L rest ∧ firstP rest = some place ∧ ds = [rowL rest] ∧ d = rowT (apartL S.p S.st rest place)
theorem okBasis_apart (T : Txt K mg) : FnOk P w K mg base CX0 2 T.aBasis_apart T.dBasis_apart ["self", "rest"] (spM K T.cBasis Gap) := by
  refine methOk T.FBasis_apart scBasis_apart (by rintro _ _ _ ⟨_, _, _, _, _, _, _, _, _, _, _, rfl, _⟩; rfl) fun cdv A outer s H E hr => ⟨_, (pss_cons (ksl 2 scBasis_apart.nd (kcall (okfirst_place T) (hr.mono (by decide)) T.g_first_place T.k_first_place T.b_first_place (kpa (kvl 1) pa_nil)))
      (pss_cons (ksl 3 scBasis_apart.nd (pe_op op_rep (pe_lst (kpa pe_int pa_nil)) (kB (r := rLenQ K) call_len_seq T.n_len (kpa (kvl 1) pa_nil))))
      (pss_cons (kasg (kcall (okinverse T) (hr.mono (by decide)) T.g_inverse T.k_inverse T.b_inverse (kpa (show PE _ _ (tFld K _ _) from pe_fld (kvl 0) (by kernel_rfl)) (kpa (pe_ix (r := rIxL K) ix_list (kvl 1) (kvl 2) (fun _ _ => rfl)) pa_nil))) (pg_sub (kvl 3) (kvl 2) set_list))
      (pss_cons (ps_for PassesOwn.never rfl (show PI _ _ _ (RZ.iZipA K _) from kzip T.n_zip (kpa (show PE _ _ (tFld K _ _) from pe_fld (kvl 0) (by kernel_rfl)) (kpa (show PE _ _ (tFld K _ _) from pe_fld (kvl 0) (by kernel_rfl)) pa_nil))) (kgt (n := 2) (by rfl) (kgs (kgl 4 scBasis_apart.nd) (kgs (kgl 5 scBasis_apart.nd) pgs_nil))) (pss_one (kasg (pe_op op_mod (pe_op op_mul (pe_un un_neg (pe_ix (r := rIxL K) ix_list (kvl 5) (kvl 2) (fun _ _ => rfl))) (pe_ix (r := rIxL K) ix_list (kvl 3) (kvl 2) (fun _ _ => rfl))) (show PE _ _ (tFld K _ _) from pe_fld (kvl 0) (by kernel_rfl))) (pg_sub (kvl 3) (kvl 4) set_list))))
      (pss_one (ps_ret (kTy (r := rTupOf K) call_tuple_of T.n_tuple (kpa (kvl 3) pa_nil)))))))), ?_⟩
  rintro S _ _ ⟨L, k, place, R, rest, I, Pp, hL, hR, rr, fp, rfl, rfl⟩ ms σ H Q h kk
  have h : At K (WB K T.cBasis S) ms ⟨H, H⟩ [.raw (.ref S.x), .dat (rowL rest), .emp, .emp, .emp, .emp] σ H := h
  have lo := Pp.lo
  have hi := Pp.hi
  obtain ⟨pl, pn, _⟩ := firstP_some fp
  have rb := rr.at (i := place) (by rw [← rr.len]; exact pl)
  have rl := rr.len
  have gp : ∀ {ρ : List Sl}, ρ[0]? = some (.raw (.ref S.x)) → Evd K (WB K T.cBasis S) (tFld K (tVar 0) "prime") ρ (.int S.p) := fun e => ev_fldB T.cl_Basis T.no_Basis_prime (lk_prime S) e fun _ _ => .int _
  refine q_asg h (ev_call (ed_cons (evd_var rfl) ed_nil) ⟨rest, rfl, rfl⟩) fun σ1 H1 h1 _ => ?_
  rw [fp] at h1
  have h1 : At K (WB K T.cBasis S) ms ⟨H, H⟩ [.raw (.ref S.x), .dat (rowL rest), .dat (.int (place : Int)), .emp, .emp, .emp] σ1 H1 := h1
  refine q_own' h1 (ef_rep (n := rest.length) (ed_cons ev_int ed_nil) (evd_eq (ev_lenL (evd_var rfl)) (by rw [List.length_map])) (by omega)) fun l ds σ2 H2 e2 h2 o2 lm lb => ?_
  subst e2
  dsimp only [List.set] at h2
  have inv := Pp.inv (ga rest place) (by omega) rb.2
  refine q_setL (m := place) (Ψ := (· = .int (invM S.p (ga rest place)))) h2 o2 lm rfl (en_of_ev (ev_call (ed_cons (gp rfl) (ed_cons (ev_ixL (evd_var rfl) (evd_var rfl) (atI_ga pl)) ed_nil)) ⟨S.p, ga rest place, Pp, by omega, rb.2, rfl, rfl⟩) ⟨_, rfl, rfl, rfl⟩) (evd_var rfl) (by rw [List.length_replicate]; exact pl) fun d H3 e3 h3 o3 => ?_
  subst e3
  have f0 : (List.replicate rest.length (PyData.int 0)).set place (.int (invM S.p (ga rest place))) = ((List.replicate rest.length 0).set place (invM S.p (ga rest place))).map .int := by
    rw [List.map_set, List.map_replicate]
  rw [f0] at o3
  have F0l : ((List.replicate rest.length 0).set place (invM S.p (ga rest place))).length = L := by rw [List.length_set, List.length_replicate, rl]
  refine q_forPX h3 (R := fun i => [.raw (.ref S.x), .dat (rowL rest), .dat (.int (place : Int)), .raw (.ref l), .emp, .emp]) (S := fun i => [.raw (.ref S.x), .dat (rowL rest), .dat (.int (place : Int)), .raw (.ref l), .dat (.int ((((S.st.pv.zip S.st.rows)[i]?.getD (0, [])).1 : Nat) : Int)), .dat (rowL ((S.st.pv.zip S.st.rows)[i]?.getD (0, [])).2)])
    (X := fun i H' => Own K (WB K T.cBasis S) (l :: ms) ⟨H, H⟩ l ((((S.st.pv.zip S.st.rows).take i).foldl (apartStep rest place S.p) ((List.replicate rest.length 0).set place (invM S.p (ga rest place)))).map .int) H')
    (src_zipB T.cl_Basis T.no_Basis_pivots T.no_Basis_rows rfl) (Le.refl _) (fun H4 a4 x4 => o3.go h3.sub x4) (fun i d hd => ?_) (fun Hb i d σ4 H4 hd h4 o4 => ?_) (fun σ4 H4 h4 o4 => ?_) fun i H4 H5 s l o => o.same s
  · rw [List.getElem?_map] at hd
    cases ez : (S.st.pv.zip S.st.rows)[i]? with
    | none => rw [ez] at hd; cases hd
    | some z =>
      rw [ez] at hd
      cases hd
      exact ⟨[4, 5], tg_tup (tgs_cons tg_name (tgs_cons tg_name tgs_nil)) rfl⟩
  · have hz : i < (S.st.pv.zip S.st.rows).length := by
      have := (List.getElem?_eq_some_iff.mp hd).1
      rwa [List.length_map] at this
    have ez : (S.st.pv.zip S.st.rows)[i]? = some ((S.st.pv.zip S.st.rows)[i]?.getD (0, [])) := by
      rw [List.getElem?_eq_getElem hz]
      rfl
    generalize (S.st.pv.zip S.st.rows)[i]?.getD (0, []) = z at h4 ez
    obtain ⟨kv, row⟩ := z
    obtain ⟨z1, z2⟩ := List.getElem?_zip_eq_some.mp ez
    have hj := (List.getElem?_eq_some_iff.mp z1).1
    have ep : pat S.st i = kv := by
      unfold pat
      rw [z1]
      rfl
    have hk := I.pl i hj
    rw [ep] at hk
    have ro := I.rr row (List.mem_of_getElem? z2)
    have rob := ro.at (i := place) (by omega)
    have et : (S.st.pv.zip S.st.rows).take (i + 1) = (S.st.pv.zip S.st.rows).take i ++ [(kv, row)] := by
      rw [List.take_add_one, ez]
      rfl
    rw [et, List.foldl_append]
    have fl : (((S.st.pv.zip S.st.rows).take i).foldl (apartStep rest place S.p) ((List.replicate rest.length 0).set place (invM S.p (ga rest place)))).length = L := by rw [apart_len, F0l]
    generalize ((S.st.pv.zip S.st.rows).take i).foldl (apartStep rest place S.p) ((List.replicate rest.length 0).set place (invM S.p (ga rest place))) = F at o4 fl ⊢
    have h4 : At K (WB K T.cBasis S) (l :: ms) ⟨H, Hb⟩ [.raw (.ref S.x), .dat (rowL rest), .dat (.int (place : Int)), .raw (.ref l), .dat (.int (kv : Int)), .dat (rowL row)] σ4 H4 := h4
    refine s_setL (m := kv) (Ψ := (· = .int (-ga row place * ga F place % S.p))) h4 (o4.re Hb) lm rfl (en_of_ev (ev_mod (ev_mul (ev_neg (ev_ixL (evd_var rfl) (evd_var rfl) (atI_ga (by rw [ro.len]; omega)))) (ev_ixL (evd_var rfl) (evd_var rfl) (atI_ga (by omega))) (.inl ⟨by omega, by omega⟩)) (gp rfl) (by omega)) ⟨_, rfl, rfl, rfl⟩) (evd_var rfl) (by rw [List.length_map, fl]; exact hk) fun d H5 e5 h5 o5 => ?_
    subst e5
    refine ⟨h5.le (.same (.same (.same (.same (.emp (.emp .nil)))))), ?_⟩
    rw [← List.map_set] at o5
    exact o5.un
  · rw [List.length_map, List.take_length] at o4
    have h6 := h4.lend o4 lm lb (i := 3) rfl
    have h6 : At K (WB K T.cBasis S) ms ⟨H, H⟩ [.raw (.ref S.x), .dat (rowL rest), .dat (.int (place : Int)), .dat (.list (((S.st.pv.zip S.st.rows).foldl (apartStep rest place S.p) ((List.replicate rest.length 0).set place (invM S.p (ga rest place)))).map .int)), .emp, .emp] σ4 H4 := h6
    exact s_fin h6 (ev_tupL (evd_var rfl)) kk
end
end Sc

/-! k60, 8: rows are taken. -/
namespace Sc
open PySem L2 Fw La
open PyProof.Rows (envOfC)
structure Nx (S S' : BA) : Prop where
  x : S'.x = S.x
  lp : S'.lp = S.lp
  lr : S'.lr = S.lr
  dx : S'.dx = S.dx
  p : S'.p = S.p
def spTk (K : PySem.W.Frag) (C : Addr) : Sp := fun vs H Q _ => ∃ (S : BA) (ms : List Addr) (ws : List V) (L k : Nat) (R : List (List Int)) (r m : List Int), vs = .ref S.x :: ws ∧ (∀ a ∈ (WB K C S).ws, a ∈ ms) ∧ (S.x ≠ S.lp ∧ S.x ≠ S.lr ∧ S.lp ≠ S.lr) ∧ Live ms H ∧ (WB K C S).P H ∧ (WB K C S).C (cut ms H) ∧ DpAll K (cut ms H) ws [rowL r, rowL m] ∧
  InvB S.p L R k S.st ∧ Prm S.p ∧ L ≤ 24 ∧ R.length ≤ 24 ∧ Res S.p L r ∧ Res S.p R.length m ∧ S.st.pv.length ≤ 1000 ∧ S.vr.length ≤ 1000 ∧
  ∀ S' H', Nx S S' → S'.st = takeB S.p S.st r m → S'.vr.length ≤ S.vr.length + 1 → XW (WB K C S).ws H H' → Live ms H' → (WB K C S').P H' → (WB K C S').C (cut ms H') → Q .non H'
section
variable {K : PySem.W.Frag} {C : Addr} {S : BA} {ms : List Addr} {B : Bs} {H H' : Hp} {ρ : List Sl} {σ : L2.St} {i : Nat} {ta te tv : TE} {D : Ends} {tz : TS}
theorem dp_ref {R : List PyData} {v : V} (h : Dp K H v (.list R)) : ∃ a, v = .ref a := by
  cases h with
  | lst _ _ => exact ⟨_, rfl⟩
theorem q_fldMade {M : List (List Int)} (cl : Cls K C) (no : NoAttr K C "made") (n1 : S.x ≠ S.lp) (n2 : S.x ≠ S.lr) (h : At K (WB K C S) ms B ρ σ H) (hr : ρ[i]? = some (.raw (.ref S.x))) (e : Evd K (WB K C S) tv ρ (rowsL M))
    (k : ∀ a H', At K (WB K C { S with m := a, st := { S.st with made := M } }) ms B ρ σ H' → tz D σ H') : tSeq (sFld K (tVar i) tv "made") tz D σ H := e ms B σ H h _ fun y H1 h1 x1 o1 => by
  obtain ⟨a, rfl⟩ := dp_ref o1
  obtain ⟨w, ew, ow⟩ := h1.env.get hr (by intro q; cases q)
  obtain rfl : w = .ref S.x := ow
  obtain ⟨p1, p2, p3⟩ := h1.p
  refine ⟨_, ew, S.x, C, S.dx, fsB S, rfl, p1, cl, no, by show 5 < 1000; decide, ?_⟩
  rw [put_made S a { S.st with made := M }]
  have hm : S.x ∈ ms := h1.sub S.x (List.mem_cons_self)
  refine k a _ (h1.putW (List.mem_cons_self) rfl ⟨upd_same, ?_, ?_⟩ ⟨dp_mono (cut_put (.inl hm)) _ _ h1.c.1, dp_mono (cut_put (.inl hm)) _ _ o1⟩)
  · rw [upd_ne (Ne.symm n1)]; exact p2
  · rw [upd_ne (Ne.symm n2)]; exact p3
theorem q_fldRows {M : List (List Int)} (cl : Cls K C) (no : NoAttr K C "rows") (n1 : S.x ≠ S.lp) (n2 : S.x ≠ S.lr) (h : At K (WB K C S) ms B ρ σ H) (hr : ρ[i]? = some (.raw (.ref S.x))) (e : Evd K (WB K C S) tv ρ (rowsL M))
    (k : ∀ a H', At K (WB K C { S with r := a, st := { S.st with rows := M } }) ms B ρ σ H' → tz D σ H') : tSeq (sFld K (tVar i) tv "rows") tz D σ H := e ms B σ H h _ fun y H1 h1 x1 o1 => by
  obtain ⟨a, rfl⟩ := dp_ref o1
  obtain ⟨w, ew, ow⟩ := h1.env.get hr (by intro q; cases q)
  obtain rfl : w = .ref S.x := ow
  obtain ⟨p1, p2, p3⟩ := h1.p
  refine ⟨_, ew, S.x, C, S.dx, fsB S, rfl, p1, cl, no, by show 5 < 1000; decide, ?_⟩
  rw [put_rows S a { S.st with rows := M }]
  have hm : S.x ∈ ms := h1.sub S.x (List.mem_cons_self)
  refine k a _ (h1.putW (List.mem_cons_self) rfl ⟨upd_same, ?_, ?_⟩ ⟨dp_mono (cut_put (.inl hm)) _ _ o1, dp_mono (cut_put (.inl hm)) _ _ h1.c.2⟩)
  · rw [upd_ne (Ne.symm n1)]; exact p2
  · rw [upd_ne (Ne.symm n2)]; exact p3
/-- self.pivots.append(k) -/
theorem s_appPv {kk : Nat} (cl : Cls K C) (no : NoAttr K C "pivots") (n1 : S.x ≠ S.lp) (n3 : S.lp ≠ S.lr) (hz : S.st.pv.length ≤ 1000) (h : At K (WB K C S) ms B ρ σ H) (hr : ρ[i]? = some (.raw (.ref S.x))) (e : Evd K (WB K C S) te ρ (.int (kk : Int)))
    (k : ∀ H', At K (WB K C { S with st := { S.st with pv := S.st.pv ++ [kk] } }) ms B ρ σ H' → D.nx σ H') : tDrop (tBM K "list" rAppend (tFld K (tVar i) "pivots") (tCons te tNil)) D σ H := by
  obtain ⟨w, ew, ow⟩ := h.env.get hr (by intro q; cases q)
  obtain rfl : w = .ref S.x := ow
  obtain ⟨p1, p2, p3⟩ := h.p
  refine ⟨_, ew, S.x, C, S.dx, fsB S, _, rfl, p1, cl, no, lk_pivots S, .inl ⟨rfl, _, .inl (.inl p2)⟩, e ms B σ H h _ fun v H1 h1 x1 o1 => ?_⟩
  cases o1
  obtain ⟨q1, q2, q3⟩ := h1.p
  have hm : S.lp ∈ ms := h1.sub S.lp (by simp [WB])
  refine ⟨S.lp, nats S.st.pv, .int (kk : Int), rfl, rfl, q2, Nat.lt_of_le_of_lt (by unfold nats; rw [List.length_map]; exact hz) (show 1000 < sizeLine by decide), ?_⟩
  refine k _ (h1.putW (by simp [WB]) rfl ⟨?_, ?_, ?_⟩ ⟨dp_mono (cut_put (.inl hm)) _ _ h1.c.1, dp_mono (cut_put (.inl hm)) _ _ h1.c.2⟩)
  · rw [upd_ne n1]; exact q1
  · rw [upd_same]; unfold nats; rw [List.map_append]; rfl
  · rw [upd_ne (Ne.symm n3)]; exact q3
/-- self.relations.append(e) -/
theorem q_appRel {d : PyData} {rl : List (List Int)} (cl : Cls K C) (no : NoAttr K C "relations") (n2 : S.x ≠ S.lr) (n3 : S.lp ≠ S.lr) (hz : S.vr.length ≤ 1000) (h : At K (WB K C S) ms B ρ σ H) (hr : ρ[i]? = some (.raw (.ref S.x))) (e : Evd K (WB K C S) te ρ d)
    (k : ∀ y H', At K (WB K C { S with vr := S.vr ++ [y], st := { S.st with rels := rl } }) ms B ρ σ H' → tz D σ H') : tSeq (tDrop (tBM K "list" rAppend (tFld K (tVar i) "relations") (tCons te tNil))) tz D σ H := by
  obtain ⟨w, ew, ow⟩ := h.env.get hr (by intro q; cases q)
  obtain rfl : w = .ref S.x := ow
  obtain ⟨p1, p2, p3⟩ := h.p
  refine ⟨_, ew, S.x, C, S.dx, fsB S, _, rfl, p1, cl, no, lk_rel S, .inl ⟨rfl, _, .inl (.inl p3)⟩, e ms B σ H h _ fun v H1 h1 x1 o1 => ?_⟩
  obtain ⟨q1, q2, q3⟩ := h1.p
  have hm : S.lr ∈ ms := h1.sub S.lr (by simp [WB])
  refine ⟨S.lr, S.vr, v, rfl, rfl, q3, Nat.lt_of_le_of_lt hz (show 1000 < sizeLine by decide), ?_⟩
  refine k v _ (h1.putW (by simp [WB]) rfl ⟨?_, ?_, upd_same⟩ ⟨dp_mono (cut_put (.inl hm)) _ _ h1.c.1, dp_mono (cut_put (.inl hm)) _ _ h1.c.2⟩)
  · rw [upd_ne n2]; exact q1
  · rw [upd_ne n3]; exact q2
end
theorem shape_rows (M : List (List Int)) : rowsL M = .list (M.map rowL) := rfl
section
variable {P : Program} {w : World} {K : PySem.W.Frag} {mg : Str → Option Value} {base : Heap}
theorem okBasis_take (T : Txt K mg) : FnOk P w K mg base CX0 3 T.aBasis_take T.dBasis_take ["self", "row", "made"] (spTk K T.cBasis) := by
  refine T.FBasis_take.ok scBasis_take (fun vs H Q E h => ?_) fun cdv A outer s H vs Q E hr h => ?_
  · obtain ⟨S, ms, ws, L, k, R, r, m, rfl, _, _, _, _, _, o, _⟩ := h
    rw [List.length_cons, dpa_len o]; rfl
  obtain ⟨S, ms, ws, L, k, R, r, m, rfl, sub, ⟨n1, n2, n3⟩, lv, pp, cc, o, I, Pp, hL, hR, rr, rm, hv, hvr, kk⟩ := h
  refine ⟨_, (pss_cons (kasg (pe_meth (kvc 0) T.cl_Basis T.m_Basis_reduced (okBasis_reduced T) (hr.mono (by decide)) T.b_Basis_reduced .nil pass0 (kpa (kvc 1) (kpa (kvc 2) pa_nil)) (by kernel_rfl) (by kernel_rfl)) (kgt (n := 2) (by rfl) (kgs (kgc 1 scBasis_take.nd) (kgs (kgc 2 scBasis_take.nd) pgs_nil))))
      (pss_cons (ksc 3 scBasis_take.nd (kcall (okfirst_place T) (hr.mono (by decide)) T.g_first_place T.k_first_place T.b_first_place (kpa (kvc 1) pa_nil)))
      (pss_cons (ps_if (pt_cmpR op_isN (kvc 3) pe_non (nomark _)) (pss_cons (kexpr (show PE _ _ (tBM K "list" _ _ _) from kmeth PySem.F.plainAttrs_list PySem.F.slot_list_append PySem.F.type_list_append mt_append (show PE _ _ (tFld K _ _) from pe_fld (kvc 0) (by kernel_rfl)) (kpa (kTy (r := rTupOf K) call_tuple_of T.n_tuple (kpa (kvc 2) pa_nil)) pa_nil)))
      (pss_one ps_retN)) pss_nil)
      (pss_cons (ksc 4 scBasis_take.nd (kcall (okinverse T) (hr.mono (by decide)) T.g_inverse T.k_inverse T.b_inverse (kpa (show PE _ _ (tFld K _ _) from pe_fld (kvc 0) (by kernel_rfl)) (kpa (pe_ix (r := rIxL K) ix_list (kvc 1) (kvc 3) (fun _ _ => rfl)) pa_nil))))
      (pss_cons (ksc 1 scBasis_take.nd (pe_lc (own := [("one", 5)]) (g := (gName 5)) (tt := tYes) (by rfl) scBasis_take.nd (show PI _ _ _ (iList K _) from pi_list (kvc 1)) (blkOk_by (by kernel_rfl)) (fun _ _ _ _ _ => (kgl 5 scBasis_take.nd)) (fun _ _ _ _ _ => pts_nil) (fun _ _ _ _ _ => (pe_op op_mod (pe_op op_mul (kvl 5) (kvc 4)) (show PE _ _ (tFld K _ _) from pe_fld (kvc 0) (by kernel_rfl))))))
      (pss_cons (ksc 2 scBasis_take.nd (pe_lc (own := [("one", 5)]) (g := (gName 5)) (tt := tYes) (by rfl) scBasis_take.nd (show PI _ _ _ (iList K _) from pi_list (kvc 2)) (blkOk_by (by kernel_rfl)) (fun _ _ _ _ _ => (kgl 5 scBasis_take.nd)) (fun _ _ _ _ _ => pts_nil) (fun _ _ _ _ _ => (pe_op op_mod (pe_op op_mul (kvl 5) (kvc 4)) (show PE _ _ (tFld K _ _) from pe_fld (kvc 0) (by kernel_rfl))))))
      (pss_cons (ksc 4 scBasis_take.nd (pe_lc (own := [("other", 6)]) (g := (gName 6)) (tt := tYes) (by rfl) scBasis_take.nd (show PI _ _ _ (iList K _) from pi_list (show PE _ _ (tFld K _ _) from pe_fld (kvc 0) (by kernel_rfl))) (blkOk_by (by kernel_rfl)) (fun _ _ _ _ _ => (kgl 6 scBasis_take.nd)) (fun _ _ _ _ _ => pts_nil) (fun _ _ _ _ _ => (pe_un un_neg (pe_ix (r := rIxL K) ix_list (kvl 6) (kvc 3) (fun _ _ => rfl))))))
      (pss_cons (ps_fld (kvc 0) (pe_op (r := rCatD K) op_catD (pe_lc (own := [("one", 5), ("other", 6)]) (g := (gTup K 2 (gCons (gName 5) (gCons (gName 6) gNil)))) (tt := tYes) (by rfl) scBasis_take.nd (show PI _ _ _ (RZ.iZipA K _) from kzip T.n_zip (kpa (kvc 4) (kpa (show PE _ _ (tFld K _ _) from pe_fld (kvc 0) (by kernel_rfl)) pa_nil))) (blkOk_by (by kernel_rfl)) (fun _ _ _ _ _ => (kgt (n := 2) (by rfl) (kgs (kgl 5 scBasis_take.nd) (kgs (kgl 6 scBasis_take.nd) pgs_nil)))) (fun _ _ _ _ _ => pts_nil) (fun _ _ _ _ _ => (kcall (okadded T) (hr.mono (by decide)) T.g_added T.k_added T.b_added (kpa (show PE _ _ (tFld K _ _) from pe_fld (kvc 0) (by kernel_rfl)) (kpa (kvl 6) (kpa (kvl 5) (kpa (kvc 2) pa_nil))))))) (pe_lst (kpa (kvc 2) pa_nil))) (by kernel_rfl))
      (pss_cons (ps_fld (kvc 0) (pe_op (r := rCatD K) op_catD (pe_lc (own := [("one", 5), ("other", 6)]) (g := (gTup K 2 (gCons (gName 5) (gCons (gName 6) gNil)))) (tt := tYes) (by rfl) scBasis_take.nd (show PI _ _ _ (RZ.iZipA K _) from kzip T.n_zip (kpa (kvc 4) (kpa (show PE _ _ (tFld K _ _) from pe_fld (kvc 0) (by kernel_rfl)) pa_nil))) (blkOk_by (by kernel_rfl)) (fun _ _ _ _ _ => (kgt (n := 2) (by rfl) (kgs (kgl 5 scBasis_take.nd) (kgs (kgl 6 scBasis_take.nd) pgs_nil)))) (fun _ _ _ _ _ => pts_nil) (fun _ _ _ _ _ => (kcall (okadded T) (hr.mono (by decide)) T.g_added T.k_added T.b_added (kpa (show PE _ _ (tFld K _ _) from pe_fld (kvc 0) (by kernel_rfl)) (kpa (kvl 6) (kpa (kvl 5) (kpa (kvc 1) pa_nil))))))) (pe_lst (kpa (kvc 1) pa_nil))) (by kernel_rfl))
      (pss_one (kexpr (show PE _ _ (tBM K "list" _ _ _) from kmeth PySem.F.plainAttrs_list PySem.F.slot_list_append PySem.F.type_list_append mt_append (show PE _ _ (tFld K _ _) from pe_fld (kvc 0) (by kernel_rfl)) (kpa (kvc 3) pa_nil))))))))))))), ?_⟩
  have lo := Pp.lo
  have hi := Pp.hi
  have h : At K (WB K T.cBasis S) ms ⟨H, H⟩ [.raw (.ref S.x), .dat (rowL r), .dat (rowL m), .emp, .emp, .emp, .emp] (L2.start nBasis_take (.ref S.x :: ws)) H := by
    refine ⟨sub, lv, ?_, pp, .refl H, Same.refl _, cc⟩
    have e : L2.start nBasis_take (.ref S.x :: ws) = some (.ref S.x) :: (ws.map some ++ List.replicate 4 none) := by
      unfold L2.start
      rw [List.map_cons, show (V.ref S.x :: ws).length = 3 by rw [List.length_cons, dpa_len o]; rfl]
      rfl
    rw [e]
    exact env_argsN (n := 4) o
  have fin : ∀ {S' : BA} {σ' : L2.St} {H' : Hp} {ρ' : List Sl}, At K (WB K T.cBasis S') ms ⟨H, H⟩ ρ' σ' H' → Nx S S' → S'.st = takeB S.p S.st r m → S'.vr.length ≤ S.vr.length + 1 → Q .non H' := fun {S' σ' H' ρ'} a n e l =>
    kk S' H' n e l (by have x := a.xw; unfold WB at x ⊢; dsimp only at x ⊢; rw [n.x, n.lp, n.lr] at x; exact x) a.live a.p a.c
  obtain ⟨τ, Dr⟩ := red_all I (by omega) rr rm
  have gp : ∀ {ρ : List Sl}, ρ[0]? = some (.raw (.ref S.x)) → Evd K (WB K T.cBasis S) (tFld K (tVar 0) "prime") ρ (.int S.p) := fun e => ev_fldB T.cl_Basis T.no_Basis_prime (lk_prime S) e fun _ _ => .int _
  refine q_tgt h (ev_meth rfl (lk_reduced S) (ed_cons (evd_var rfl) (ed_cons (evd_var rfl) ed_nil)) ⟨L, k, R, r, m, I, by omega, hi, hL, hR, rr, rm, rfl, rfl⟩) (tg_tup (tgs_cons tg_name (tgs_cons tg_name tgs_nil)) rfl) fun σ1 H1 h1 _ => ?_
  dsimp only [List.set] at h1
  have et : takeB S.p S.st r m = match firstP (redB S.p S.st r m).1 with
    | none => { S.st with rels := S.st.rels ++ [(redB S.p S.st r m).2] }
    | some k =>
      let t := invM S.p (ga (redB S.p S.st r m).1 k)
      let r' := scaleL S.p (redB S.p S.st r m).1 t
      let m' := scaleL S.p (redB S.p S.st r m).2 t
      let ts := S.st.rows.map fun o => -ga o k
      { pv := S.st.pv ++ [k], made := List.zipWith (fun one other => addL S.p other one m') ts S.st.made ++ [m'], rows := List.zipWith (fun one other => addL S.p other one r') ts S.st.rows ++ [r'], rels := S.st.rels } := rfl
  rw [et] at fin
  clear et
  have r1 := Dr.r1
  have r2 := Dr.r2
  generalize redB S.p S.st r m = q at h1 fin r1 r2
  obtain ⟨ro, mo⟩ := q
  dsimp only at h1 fin r1 r2
  refine q_asg h1 (ev_call (ed_cons (evd_var rfl) ed_nil) ⟨ro, rfl, rfl⟩) fun σ2 H2 h2 _ => ?_
  dsimp only [List.set] at h2
  refine q_when h2 (et_test (ev_isNo (evd_var rfl))) (fun q H3 h3 _ => ?_) fun q H3 h3 _ => ?_
  · cases f : firstP ro with
    | some k2 => rw [f] at q; cases q
    | none =>
      rw [f] at fin
      refine q_appRel (rl := S.st.rels ++ [mo]) T.cl_Basis T.no_Basis_relations n2 n3 hvr h3 rfl (ev_tupL (evd_var rfl)) fun y H4 h4 => ?_
      exact fin h4 ⟨rfl, rfl, rfl, rfl, rfl⟩ rfl (by show (S.vr ++ [y]).length ≤ _; rw [List.length_append, List.length_singleton]; exact Nat.le_refl _)
  · cases f : firstP ro with
    | none => rw [f] at q; cases q
    | some k2 =>
      rw [f] at fin h3
      dsimp only at fin
      obtain ⟨kl, kn, _⟩ := firstP_some f
      rw [r1.len] at kl
      have rb := r1.at kl
      obtain ⟨_, i1, i2, _⟩ := Pp.inv (ga ro k2) (by omega) rb.2
      have h3 : At K (WB K T.cBasis S) ms ⟨H, H⟩ [.raw (.ref S.x), .dat (rowL ro), .dat (rowL mo), .dat (.int (k2 : Int)), .emp, .emp, .emp] σ2 H3 := h3
      refine q_asg h3 (ev_call (ed_cons (gp rfl) (ed_cons (ev_ixL (evd_var rfl) (evd_var rfl) (atI_ga (by rw [r1.len]; exact kl))) ed_nil)) ⟨S.p, ga ro k2, Pp, by omega, rb.2, rfl, rfl⟩) fun σ4 H4 h4 _ => ?_
      dsimp only [List.set] at h4
      generalize invM S.p (ga ro k2) = t at h4 i1 i2 fin
      refine q_asg h4 (evd_eq (ev_lc0 (j := 5) (xs := ro) (enc := PyData.int) (f := fun x => .int (x * t % S.p)) (src_list (evd_var rfl)) (by rw [r1.len]; omega) fun x hx => ev_mod (ev_mul (evd_var rfl) (evd_var rfl) (.inr ⟨by omega, by omega⟩)) (gp rfl) (by omega)) (e := rowL (scaleL S.p ro t)) (by unfold rowL scaleL; rw [List.map_map]; rfl)) fun σ5 H5 h5 _ => ?_
      dsimp only [List.set] at h5
      refine q_asg h5 (evd_eq (ev_lc0 (j := 5) (xs := mo) (enc := PyData.int) (f := fun x => .int (x * t % S.p)) (src_list (evd_var rfl)) (by rw [r2.len]; omega) fun x hx => ev_mod (ev_mul (evd_var rfl) (evd_var rfl) (.inr ⟨by omega, by omega⟩)) (gp rfl) (by omega)) (e := rowL (scaleL S.p mo t)) (by unfold rowL scaleL; rw [List.map_map]; rfl)) fun σ6 H6 h6 _ => ?_
      dsimp only [List.set] at h6
      have sr := scaleL_res (t := t) (show 0 < S.p by omega) r1.len
      have sm := scaleL_res (t := t) (show 0 < S.p by omega) r2.len
      generalize scaleL S.p ro t = r' at h6 fin sr
      generalize scaleL S.p mo t = m' at h6 fin sm
      have lrw := I.lr
      have lmd := I.lm
      refine q_asg h6 (evd_eq (ev_lc0 (j := 6) (xs := S.st.rows) (enc := rowL) (f := fun o => .int (-ga o k2)) (src_list (ev_fldB T.cl_Basis T.no_Basis_rows (lk_rows S) rfl fun _ c => c.1)) (by omega) fun o ho => ev_neg (ev_ixL (evd_var rfl) (evd_var rfl) (atI_ga (by rw [(I.rr o ho).len]; exact kl)))) (e := rowL (S.st.rows.map fun o => -ga o k2)) (by unfold rowL; rw [List.map_map]; rfl)) fun σ7 H7 h7 _ => ?_
      dsimp only [List.set] at h7
      have tsb : ∀ one ∈ S.st.rows.map fun o => -ga o k2, -(2 ^ 64) < one ∧ one < 2 ^ 64 := fun one h1 => by
        obtain ⟨o, ho, rfl⟩ := List.mem_map.mp h1
        have := (I.rr o ho).at kl
        omega
      have tsl : (S.st.rows.map fun o => -ga o k2).length = S.st.pv.length := by rw [List.length_map]; exact lrw
      generalize (S.st.rows.map fun o => -ga o k2) = ts at h7 fin tsb tsl
      have adds : ∀ {S2 : BA} {v : List Int} {f : Str} {vv : V} {X : List (List Int)} {LL : Nat} {j : Nat}, S2.x = S.x → S2.p = S.p → NoAttr K T.cBasis f → (fsB S2).lookup f = some vv → (∀ Hc, (WB K T.cBasis S2).C Hc → Dp K Hc vv (rowsL X)) → X.length = S.st.pv.length → (∀ o ∈ X, Res S.p LL o) → LL ≤ 24 → (j = 1 ∧ v = r' ∨ j = 2 ∧ v = m') →
          Evd K (WB K T.cBasis S2) (tOp (rCatD K) (tLc (RZ.iZipA K (tCons (tVar 4) (tCons (tFld K (tVar 0) f) tNil))) (gTup K 2 (gCons (gName 5) (gCons (gName 6) gNil))) tYes (tCall (spP K Gad) [] E0 (tCons (tFld K (tVar 0) "prime") (tCons (tVar 6) (tCons (tVar 5) (tCons (tVar j) tNil))))) [5, 6]) (tLst (tCons (tVar j) tNil)))
            [.raw (.ref S.x), .dat (rowL r'), .dat (rowL m'), .dat (.int (k2 : Int)), .dat (rowL ts), .emp, .emp] (rowsL (List.zipWith (fun one other => addL S.p other one v) ts X ++ [v])) := by
        intro S2 v f vv X LL j ex ep no lk hd hX hXr hLL hj
        have ez : List.zipWith (fun a b => PyData.tuple [a, b]) (ts.map PyData.int) (X.map rowL) = (ts.zip X).map fun q => .tuple [.int q.1, rowL q.2] := zip_tup _ _
        have gj : ∀ {a b c d e g : Sl}, Evd K (WB K T.cBasis S2) (tVar j) [a, .dat (rowL r'), .dat (rowL m'), b, c, d, e] (rowL v) := by
          intro a b c d e g
          rcases hj with ⟨rfl, rfl⟩ | ⟨rfl, rfl⟩
          · exact evd_var rfl
          · exact evd_var rfl
        refine evd_eq (ev_cat (ev_lcN (xs := ts.zip X) (enc := fun q => .tuple [.int q.1, rowL q.2]) (f := fun q => rowL (addL S.p q.2 q.1 v)) (S := fun q => [.raw (.ref S.x), .dat (rowL r'), .dat (rowL m'), .dat (.int (k2 : Int)), .dat (rowL ts), .dat (.int q.1), .dat (rowL q.2)])
          (ez ▸ src_zipL (ed_cons (evd_var rfl) (ed_cons (ev_fldB T.cl_Basis no lk (by rw [ex]; rfl) hd) ed_nil))) (by rw [List.length_zip]; omega) (fun q hq => ⟨[5, 6], tg_tup (tgs_cons tg_name (tgs_cons tg_name tgs_nil)) rfl, fun j z => z⟩) fun q hq => ?_) (ev_lst (ed_cons (gj (g := .emp)) ed_nil) (by show 1 ≤ 100000; decide)) ?_) ?_
        · have mq := List.of_mem_zip hq
          have b := tsb q.1 mq.1
          refine ev_added (b := true) (a := q.2) (o := v) (evd_eq (ev_fldB T.cl_Basis T.no_Basis_prime (lk_prime S2) (by rw [ex]; rfl) fun _ _ => .int _) (by rw [ep])) (evd_var rfl) (evd_var rfl) (gj (g := .emp)) (by omega) b.1 b.2 (by rw [(hXr q.2 mq.2).len]; omega)
        · rw [List.length_map, List.length_zip]
          show _ + 1 ≤ _
          omega
        · unfold rowsL
          rw [List.map_append, List.zip_eq_zipWith, List.map_zipWith, List.map_zipWith]
          rfl
      refine q_fldMade T.cl_Basis T.no_Basis_made n1 n2 h7 rfl (adds (S2 := S) rfl rfl T.no_Basis_made (lk_made S) (fun _ c => c.2) lmd I.rm hR (.inr ⟨rfl, rfl⟩)) fun a8 H8 h8 => ?_
      generalize List.zipWith (fun one other => addL S.p other one m') ts S.st.made ++ [m'] = M at h8 fin
      refine q_fldRows (S := { S with m := a8, st := { S.st with made := M } }) T.cl_Basis T.no_Basis_rows n1 n2 h8 rfl (adds (S2 := { S with m := a8, st := { S.st with made := M } }) rfl rfl T.no_Basis_rows (lk_rows _) (fun _ c => c.1) lrw I.rr hL (.inl ⟨rfl, rfl⟩)) fun a9 H9 h9 => ?_
      generalize List.zipWith (fun one other => addL S.p other one r') ts S.st.rows ++ [r'] = N at h9 fin
      exact s_appPv (S := { S with m := a8, r := a9, st := { S.st with made := M, rows := N } }) T.cl_Basis T.no_Basis_pivots n1 n3 hv h9 rfl (evd_var rfl) fun H10 h10 => fin h10 ⟨rfl, rfl, rfl, rfl, rfl⟩ rfl (Nat.le_succ _)
end
end Sc

/-! k60, 9: a basis is made. -/
namespace Sc
open PySem L2 Fw La
open PyProof.Rows (envOfC)
section
variable {K : PySem.W.Frag} {W : Wd} {ρ : List Sl} {ta te : TE} {ds : List PyData}
theorem ev_lstT (h : Evd K W te ρ (.tuple ds)) : Evd K W (tCB (rLstOf K) (tCons te tNil)) ρ (.list ds) := ev_cb (ed_cons h ed_nil) (rc1 fun ms H v l o Q q => by
  cases o with
  | tup hs ha => exact ⟨_, _, rfl, .inr (sqt_mono cut_le hs), fun p hp => q _ _ (same_put hp) (Sl.new_lst l hp ha)⟩)
theorem ev_toIntB {b : Bool} (h : Evd K W te ρ (.bool b)) : Evd K W (tCB rInt1 (tCons te tNil)) ρ (.int (if b then 1 else 0)) := ev_cb (ed_cons h ed_nil) (rc1 fun ms H v l o Q q => by
  cases o
  exact .inr ⟨_, rfl, q _ H (Same.refl H) (.int _)⟩)
end
section
variable {K : PySem.W.Frag} {C : Addr} {S : BA} {ms : List Addr} {B : Bs} {H H' : Hp} {ρ : List Sl} {σ : L2.St} {i : Nat} {ta : TA} {D : Ends} {tz : TS} {E : XK}
theorem s_take {L k : Nat} {R : List (List Int)} {r m : List Int} (h : At K (WB K C S) ms B ρ σ H) (hr : ρ[i]? = some (.raw (.ref S.x))) (ne : S.x ≠ S.lp ∧ S.x ≠ S.lr ∧ S.lp ≠ S.lr) (ha : EvD K (WB K C S) ta ρ [rowL r, rowL m])
    (I : InvB S.p L R k S.st) (Pp : Prm S.p) (hL : L ≤ 24) (hR : R.length ≤ 24) (rr : Res S.p L r) (rm : Res S.p R.length m) (hv : S.st.pv.length ≤ 1000) (hvr : S.vr.length ≤ 1000)
    (kk : ∀ S' H', Nx S S' → S'.st = takeB S.p S.st r m → S'.vr.length ≤ S.vr.length + 1 → At K (WB K C S') ms B ρ σ H' → D.nx σ H') : tDrop (tMeth C "take" (spTk K C) [] E (tVar i) ta) D σ H := by
  obtain ⟨w, e, o⟩ := h.env.get hr (by intro q; cases q)
  obtain rfl : w = .ref S.x := o
  refine ⟨_, e, S.x, S.dx, fsB S, rfl, h.p.1, lk_take S, ha ms B σ H h _ fun vs H1 h1 x1 o1 => ?_⟩
  show spTk K C (.ref S.x :: (vs ++ [])) H1 _ E
  rw [List.append_nil]
  refine ⟨S, ms, vs, L, k, R, r, m, rfl, h1.sub, ne, h1.live, h1.p, h1.c, o1, I, Pp, hL, hR, rr, rm, hv, hvr, fun S' H2 n e2 l2 x2 lv p2 c2 => kk S' H2 n e2 l2 ⟨?_, lv, h1.env.mono (x2.cut h1.sub), p2, ?_, h1.st.trans (x2.cut h1.sub), c2⟩⟩
  · have s := h1.sub
    unfold WB at s ⊢
    dsimp only at s ⊢
    rw [n.x, n.lp, n.lr]
    exact s
  · have x := h1.xw.trans x2
    unfold WB at x ⊢
    dsimp only at x ⊢
    rw [n.x, n.lp, n.lr]
    exact x
end
theorem pvs_len {p : Int} {st : BSt} {r m : List Int} : (takeB p st r m).pv.length ≤ st.pv.length + 1 := by
  unfold takeB
  dsimp only
  split
  · exact Nat.le_succ _
  · show (st.pv ++ [_]).length ≤ _
    rw [List.length_append, List.length_singleton]
    exact Nat.le_refl _
theorem basis_pv {p : Int} {R : List (List Int)} : ∀ k, (basisL p R k).pv.length ≤ k
  | 0 => Nat.le_refl _
  | k + 1 => Nat.le_trans pvs_len (Nat.succ_le_succ (basis_pv k))
theorem Nx.trans {S S' S2 : BA} (a : Nx S S') (b : Nx S' S2) : Nx S S2 := ⟨b.x.trans a.x, b.lp.trans a.lp, b.lr.trans a.lr, b.dx.trans a.dx, b.p.trans a.p⟩
def spIn (K : PySem.W.Frag) (C : Addr) : Sp := fun vs H Q _ => ∃ (x dx : Addr) (ms : List Addr) (w : V) (L : Nat) (p : Int) (R : List (List Int)), vs = [.ref x, .int p, w] ∧ x ∉ ms ∧ Live ms H ∧ H x = some (.ins C dx []) ∧ Dp K (cut (x :: ms) H) w (rowsT R) ∧ Good p L R ∧
  ∀ (S : BA) H', S.x = x → S.p = p → S.st = basisL p R R.length → (S.x ≠ S.lp ∧ S.x ≠ S.lr ∧ S.lp ≠ S.lr) → H S.lp = none → H S.lr = none → (∀ b o, b ≠ x → H b = some o → H' b = some o) → Live (S.x :: S.lp :: S.lr :: ms) H' → (WB K C S).P H' → (WB K C S).C (cut (S.x :: S.lp :: S.lr :: ms) H') → Q .non H'
section
variable {P : Program} {w : World} {K : PySem.W.Frag} {mg : Str → Option Value} {base : Heap}
theorem okBasis___init__ (T : Txt K mg) : FnOk P w K mg base CX0 4 T.aBasis___init__ T.dBasis___init__ ["self", "prime", "rows"] (spIn K T.cBasis) := by
  refine T.FBasis___init__.ok scBasis___init__ (fun vs H Q E h => ?_) fun cdv A outer s H vs Q E hr h => ?_
  · obtain ⟨x, dx, ms, w, L, p, R, rfl, _⟩ := h
    rfl
  obtain ⟨x, dx, ms, w2, L, p, R, rfl, xm, lv, hx, ow, G, kk⟩ := h
  refine ⟨_, (pss_cons (ps_fld (kvl 0) (kvl 1) (by kernel_rfl))
      (pss_cons (ps_fld (kvl 0) (pe_lst pa_nil) (by kernel_rfl))
      (pss_cons (ps_fld (kvl 0) (pe_lst pa_nil) (by kernel_rfl))
      (pss_cons (ps_fld (kvl 0) (pe_lst pa_nil) (by kernel_rfl))
      (pss_cons (ps_fld (kvl 0) (pe_lst pa_nil) (by kernel_rfl))
      (pss_one (ps_for PassesOwn.never rfl (pi_enumT T.n_enumerate (kpa (kvl 2) pa_nil)) (kgt (n := 2) (by rfl) (kgs (kgc 3 scBasis___init__.nd) (kgs (kgl 4 scBasis___init__.nd) pgs_nil))) (pss_one (kexpr (pe_meth (kvl 0) T.cl_Basis T.m_Basis_take (okBasis_take T) (hr.mono (by decide)) T.b_Basis_take .nil pass0 (kpa (kTy (r := rLstOf K) call_list_of T.n_list (kpa (kvl 4) pa_nil)) (kpa (pe_lc (own := [("place", 5)]) (g := (gName 5)) (tt := tYes) (by rfl) scBasis___init__.nd (krg1 T.n_range (kpa (kB (r := rLenQ K) call_len_seq T.n_len (kpa (kvl 2) pa_nil)) pa_nil)) (blkOk_by (by kernel_rfl)) (fun _ _ _ _ _ => (kgl 5 scBasis___init__.nd)) (fun _ _ _ _ _ => pts_nil) (fun _ _ _ _ _ => (kTy call_int1 T.n_int (kpa (pe_cmpR op_eq (kvc 3) (kvl 5) (nomark _)) pa_nil)))) pa_nil)) (by kernel_rfl) (by kernel_rfl))))))))))), ?_⟩
  have cl := T.cl_Basis
  refine ⟨_, rfl, _, rfl, x, T.cBasis, dx, [], rfl, hx, cl, T.no_Basis_prime, by show 0 < 1000; decide, ?_⟩
  refine ⟨Nat.zero_le _, fun lp hlp => ⟨_, rfl, x, T.cBasis, dx, _, rfl, (by rw [upd_ne (fun q => by subst q; rw [upd_same] at hlp; cases hlp), upd_same]), cl, T.no_Basis_pivots, by show 1 < 1000; decide, ?_⟩⟩
  have xlp : x ≠ lp := fun q => by subst q; rw [upd_same] at hlp; cases hlp
  rw [upd_ne (Ne.symm xlp)] at hlp
  refine ⟨Nat.zero_le _, fun r hr' => ⟨_, rfl, x, T.cBasis, dx, _, rfl, (by rw [upd_ne (fun q => by subst q; rw [upd_same] at hr'; cases hr'), upd_same]), cl, T.no_Basis_rows, by show 2 < 1000; decide, ?_⟩⟩
  have xr : x ≠ r := fun q => by subst q; rw [upd_same] at hr'; cases hr'
  have lpr : lp ≠ r := fun q => by subst q; rw [upd_ne (Ne.symm xlp), upd_same] at hr'; cases hr'
  rw [upd_ne (Ne.symm xr), upd_ne (Ne.symm lpr), upd_ne (Ne.symm xr)] at hr'
  refine ⟨Nat.zero_le _, fun m hm => ⟨_, rfl, x, T.cBasis, dx, _, rfl, (by rw [upd_ne (fun q => by subst q; rw [upd_same] at hm; cases hm), upd_same]), cl, T.no_Basis_made, by show 3 < 1000; decide, ?_⟩⟩
  have xm2 : x ≠ m := fun q => by subst q; rw [upd_same] at hm; cases hm
  have rm : r ≠ m := fun q => by subst q; rw [upd_ne (Ne.symm xr), upd_same] at hm; cases hm
  have lpm : lp ≠ m := fun q => by subst q; rw [upd_ne (Ne.symm xlp), upd_ne lpr, upd_ne (Ne.symm xlp), upd_same] at hm; cases hm
  rw [upd_ne (Ne.symm xm2), upd_ne (Ne.symm rm), upd_ne (Ne.symm xm2), upd_ne (Ne.symm lpm), upd_ne (Ne.symm xm2)] at hm
  refine ⟨Nat.zero_le _, fun lr hlr => ⟨_, rfl, x, T.cBasis, dx, _, rfl, (by rw [upd_ne (fun q => by subst q; rw [upd_same] at hlr; cases hlr), upd_same]), cl, T.no_Basis_relations, by show 4 < 1000; decide, ?_⟩⟩
  have xlr : x ≠ lr := fun q => by subst q; rw [upd_same] at hlr; cases hlr
  have mlr : m ≠ lr := fun q => by subst q; rw [upd_ne (Ne.symm xm2), upd_same] at hlr; cases hlr
  have rlr : r ≠ lr := fun q => by subst q; rw [upd_ne (Ne.symm xr), upd_ne rm, upd_ne (Ne.symm xr), upd_same] at hlr; cases hlr
  have lplr : lp ≠ lr := fun q => by subst q; rw [upd_ne (Ne.symm xlp), upd_ne lpm, upd_ne (Ne.symm xlp), upd_ne lpr, upd_ne (Ne.symm xlp), upd_same] at hlr; cases hlr
  rw [upd_ne (Ne.symm xlr), upd_ne (Ne.symm mlr), upd_ne (Ne.symm xlr), upd_ne (Ne.symm rlr), upd_ne (Ne.symm xlr), upd_ne (Ne.symm lplr), upd_ne (Ne.symm xlr)] at hlr
  let S0 : BA := ⟨x, lp, lr, r, m, dx, p, ⟨[], [], [], []⟩, []⟩
  have ef : putF "relations" (.ref lr) (putF "made" (.ref m) (putF "rows" (.ref r) (putF "pivots" (.ref lp) (putF "prime" (.int p) [])))) = fsB S0 := by
    have a1 : ¬ (("prime" : Str) = "pivots") := by decide +kernel
    have a2 : ¬ (("prime" : Str) = "relations") := by decide +kernel
    have a3 : ¬ (("pivots" : Str) = "relations") := by decide +kernel
    have a4 : ¬ (("rows" : Str) = "relations") := by decide +kernel
    have a5 : ¬ (("made" : Str) = "relations") := by decide +kernel
    simp [putF, fsB, S0, a1, a2, a3, a4, a5, pm_pr, pv_pr, rw_pr, pm_rw, pv_rw]
  rw [ef]
  generalize hH5 : upd (upd (upd (upd (upd (upd (upd (upd (upd H x (.ins T.cBasis dx (putF "prime" (.int p) []))) lp (.lst [])) x (.ins T.cBasis dx (putF "pivots" (.ref lp) (putF "prime" (.int p) [])))) r (.lst [])) x (.ins T.cBasis dx (putF "rows" (.ref r) (putF "pivots" (.ref lp) (putF "prime" (.int p) []))))) m (.lst [])) x (.ins T.cBasis dx (putF "made" (.ref m) (putF "rows" (.ref r) (putF "pivots" (.ref lp) (putF "prime" (.int p) [])))))) lr (.lst [])) x (.ins T.cBasis dx (fsB S0)) = H5
  have kp : ∀ b o, b ≠ x → H b = some o → H5 b = some o := fun b o hb e => by
    rw [← hH5, upd_ne hb, upd_ne (ne_of_none e hlr), upd_ne hb, upd_ne (ne_of_none e hm), upd_ne hb, upd_ne (ne_of_none e hr'), upd_ne hb, upd_ne (ne_of_none e hlp), upd_ne hb]
    exact e
  have k1 : H5 x = some (.ins T.cBasis dx (fsB S0)) := by rw [← hH5, upd_same]
  have k2 : H5 lp = some (.lst []) := by rw [← hH5, upd_ne (Ne.symm xlp), upd_ne lplr, upd_ne (Ne.symm xlp), upd_ne lpm, upd_ne (Ne.symm xlp), upd_ne lpr, upd_ne (Ne.symm xlp), upd_same]
  have k3 : H5 r = some (.lst []) := by rw [← hH5, upd_ne (Ne.symm xr), upd_ne rlr, upd_ne (Ne.symm xr), upd_ne rm, upd_ne (Ne.symm xr), upd_same]
  have k4 : H5 m = some (.lst []) := by rw [← hH5, upd_ne (Ne.symm xm2), upd_ne mlr, upd_ne (Ne.symm xm2), upd_same]
  have k5 : H5 lr = some (.lst []) := by rw [← hH5, upd_ne (Ne.symm xlr), upd_same]
  have nlp : lp ∉ ms := lv.fresh hlp
  have nr : r ∉ ms := lv.fresh hr'
  have nm : m ∉ ms := lv.fresh hm
  have nlr : lr ∉ ms := lv.fresh hlr
  have l5 : Live (x :: lp :: lr :: ms) H5 := fun a z => by
    simp only [List.mem_cons] at z
    rcases z with rfl | rfl | rfl | z
    · exact ⟨_, k1⟩
    · exact ⟨_, k2⟩
    · exact ⟨_, k5⟩
    · obtain ⟨o, e⟩ := lv a z
      exact ⟨o, kp a o (fun q => xm (q ▸ z)) e⟩
  have sm : Same (cut (x :: ms) H) (cut (x :: lp :: lr :: ms) H5) := fun a o e => by
    have na : a ∉ x :: ms := fun z => by rw [cut_in z] at e; cases e
    rw [cut_out na] at e
    have n2 : a ∉ x :: lp :: lr :: ms := fun z => by
      simp only [List.mem_cons] at z
      rcases z with rfl | rfl | rfl | z
      · exact na List.mem_cons_self
      · rw [hlp] at e; cases e
      · rw [hlr] at e; cases e
      · exact na (List.mem_cons_of_mem _ z)
    rw [cut_out n2]
    exact kp a o (fun q => na (by rw [q]; exact List.mem_cons_self)) e
  have dl : ∀ {a : Addr}, H5 a = some (.lst []) → a ∉ x :: lp :: lr :: ms → Dp K (cut (x :: lp :: lr :: ms) H5) (.ref a) (.list []) := fun {a} e n => .lst (.inl (.inl (by rw [cut_out n]; exact e))) .nil
  have h5 : At K (WB K T.cBasis S0) (x :: lp :: lr :: ms) ⟨H5, H5⟩ [.raw (.ref x), .dat (.int p), .dat (rowsT R), .emp, .emp, .emp] (L2.start nBasis___init__ [.ref x, .int p, w2]) H5 := by
    refine ⟨fun a z => ?_, l5, .cons (show SlO K _ (.raw (.ref x)) (some (.ref x)) from rfl) (.cons (SlO.of (s := .dat (.int p)) (.int p)) (.cons (SlO.of (s := .dat (rowsT R)) (dp_mono sm _ _ ow)) (EnvOk.emp 3))), ⟨k1, k2, k5⟩, .refl _, Same.refl _, dl k3 ?_, dl k4 ?_⟩
    · have z : a ∈ [x, lp, lr] := z
      simp only [List.mem_cons, List.not_mem_nil, or_false] at z ⊢
      rcases z with z | z | z <;> simp [z]
    · simp only [List.mem_cons, not_or]
      exact ⟨Ne.symm xr, Ne.symm lpr, rlr, nr⟩
    · simp only [List.mem_cons, not_or]
      exact ⟨Ne.symm xm2, Ne.symm lpm, mlr, nm⟩
  have rl := G.rl
  refine s_forW (Wf := WB K T.cBasis) (Φ := fun i S => Nx S0 S ∧ S.st = basisL p R i ∧ S.vr.length ≤ i) (R := fun _ => [.raw (.ref x), .dat (.int p), .dat (rowsT R), .emp, .emp, .emp]) (S := fun i => [.raw (.ref x), .dat (.int p), .dat (rowsT R), .dat (.int (i : Nat)), .dat (rowT (R[i]?.getD [])), .emp])
    S0 ⟨⟨rfl, rfl, rfl, rfl, rfl⟩, rfl, Nat.le_refl _⟩ h5 (src_enumT (ed_cons (evd_var rfl) ed_nil)) (Le.refl _) (fun i S d hd => ?_) (fun Hb i S σ' d H6 hd φ h6 => ?_) (fun S σ' H6 φ h6 => ?_)
  · obtain ⟨y, hy, rfl⟩ := enumD_get hd
    rw [List.getElem?_map] at hy
    cases e : R[i]? with
    | none => rw [e] at hy; cases hy
    | some q =>
      rw [e] at hy
      cases hy
      exact ⟨[3, 4], tg_tup (tgs_cons tg_name (tgs_cons tg_name tgs_nil)) rfl⟩
  · have hi : i < R.length := by
      have := (List.getElem?_eq_some_iff.mp hd).1
      rwa [enumD_len, List.length_map] at this
    obtain ⟨n0, est, lvr⟩ := φ
    have ex : S.x = x := n0.x
    have ep : S.p = p := n0.p
    have elp : S.lp = lp := n0.lp
    have elr : S.lr = lr := n0.lr
    have pvl : S.st.pv.length ≤ i := by rw [est]; exact basis_pv i
    have rri : Res p L (R[i]?.getD []) := by
      rw [List.getElem?_eq_getElem hi]
      exact G.R _ (List.getElem_mem hi)
    have lo := G.P.lo
    refine s_take (S := S) (L := L) (k := i) (R := R) (r := R[i]?.getD []) (m := unitL R.length i) h6 (by rw [ex]; rfl) (by rw [ex, elp, elr]; exact ⟨xlp, xlr, lplr⟩) (ed_cons (ev_lstT (evd_var rfl)) (ed_cons (evd_eq (ev_lc0 (j := 5) (xs := List.range R.length) (enc := fun j => .int (j : Nat)) (f := fun j => .int (if decide ((i : Int) = (j : Int)) = true then 1 else 0)) ?_ (by rw [List.length_range]; omega) fun j _ => ev_toIntB (ev_eqI (evd_var rfl) (evd_var rfl))) ?_) ed_nil))
      (by rw [ep, est]; exact basis_inv G.P G.R i (by omega)) (by rw [ep]; exact G.P) G.L1 rl (by rw [ep]; exact rri) (by rw [ep]; exact unitL_res (by omega)) (by omega) (by omega) fun S' H7 n e l h7 => ?_
    · have sr : Src K (WB K T.cBasis S) (iRng1 (tCons (tCB (rLenQ K) (tCons (tVar 2) tNil)) tNil)) [.raw (.ref x), .dat (.int p), .dat (rowsT R), .dat (.int (i : Nat)), .dat (rowT (R[i]?.getD [])), .emp] _ := src_range (n := (R.length : Int)) (ed_cons (evd_eq (ev_lenT (evd_var rfl)) (by rw [List.length_map])) ed_nil) (by omega) (by omega)
      rwa [Int.toNat_natCast] at sr
    · unfold rowL unitL
      rw [List.map_map]
      congr 1
      refine List.map_congr_left fun j _ => ?_
      show PyData.int (if decide ((i : Int) = (j : Int)) = true then 1 else 0) = PyData.int (if i = j then 1 else 0)
      rw [nat_eq]
      by_cases q : i = j
      · rw [if_pos q, decide_eq_true q]; rfl
      · rw [if_neg q, decide_eq_false q]; rfl
    · refine ⟨S', ⟨n0.trans n, ?_, by omega⟩, h7.le (.same (.same (.same (.emp (.emp (.emp .nil))))))⟩
      rw [e, ep, est]
      rfl
  · rw [enumD_len, List.length_map] at φ
    obtain ⟨n0, est, lvr⟩ := φ
    have ex : S.x = x := n0.x
    have ep : S.p = p := n0.p
    have elp : S.lp = lp := n0.lp
    have elr : S.lr = lr := n0.lr
    have em : (S.x :: S.lp :: S.lr :: ms) = (x :: lp :: lr :: ms) := by rw [ex, elp, elr]
    refine kk S H6 ex ep est (by rw [ex, elp, elr]; exact ⟨xlp, xlr, lplr⟩) (by rw [elp]; exact hlp) (by rw [elr]; exact hlr) (fun b o hb e => h6.xw b o (fun z => ?_) (kp b o hb e)) (by rw [em]; exact h6.live) h6.p (by rw [em]; exact h6.c)
    have z : b ∈ [S.x, S.lp, S.lr] := z
    rw [ex, elp, elr] at z
    simp only [List.mem_cons, List.not_mem_nil, or_false] at z
    rcases z with rfl | rfl | rfl
    · exact hb rfl
    · rw [hlp] at e; cases e
    · rw [hlr] at e; cases e
end
end Sc

/-! k60, 10: defs that raise; alternatives. -/
namespace Sc
open PySem L2 Fw La
open PyProof.Rows (envOfC)
inductive Out where
  | ok (d : PyData) | no (c : Addr)
def spX (K : PySem.W.Frag) (O : List PyData → Out → Prop) : Sp := fun vs H Q E => ∃ (ms : List Addr) (ds : List PyData) (o : Out), Live ms H ∧ DpAll K (cut ms H) vs ds ∧ O ds o ∧
  (∀ d, o = .ok d → ∀ v H', Same H H' → Dp K (cut ms H') v d → Q v H') ∧ ∀ c, o = .no c → ∀ H', Same H H' → E (.ref c) none H'
section
variable {K : PySem.W.Frag} {W : Wd} {ms : List Addr} {B : Bs} {H H' : Hp} {ρ : List Sl} {σ : L2.St} {ta : TA} {D : Ends} {tz : TS} {ds : List PyData} {O : List PyData → Out → Prop} {o : Out} {d : PyData} {E : XK} {WX' : WX}
theorem ev_callX (h : EvD K W ta ρ ds) (ho : O ds (.ok d)) : Evd K W (tCall (spX K O) [] E ta) ρ d := fun ms B σ H a Q q => h ms B σ H a _ fun vs H1 h1 x1 o1 => by
  show spX K O (vs ++ []) H1 Q E
  rw [List.append_nil]
  exact ⟨ms, ds, .ok d, h1.live, o1, ho, fun d' e v H2 s2 o2 => by cases e; exact q v H2 (h1.same s2) (x1.trans (.of_same s2)) o2, fun c e => nomatch e⟩
theorem s_callX (h : At K W0 ms B ρ σ H) (ha : EvD K W0 ta ρ ds) (ho : O ds o) (k1 : ∀ d, o = .ok d → ∀ H', At K W0 ms B ρ σ H' → D.nx σ H') (k2 : ∀ c, o = .no c → ∀ H', At K W0 ms B ρ σ H' → WX' (.ref c) none σ H') : tDrop (tCallS (spX K O) (WE WX') ta) D σ H :=
  ha ms B σ H h _ fun vs H1 h1 x1 o1 => ⟨ms, ds, o, h1.live, o1, ho, fun d e v H2 s2 o2 => k1 d e H2 (h1.same s2), fun c e H2 s2 => k2 c e H2 (h1.same s2)⟩
theorem q_callX (h : At K W0 ms B ρ σ H) (ha : EvD K W0 ta ρ ds) (ho : O ds o) (k1 : ∀ d, o = .ok d → ∀ H', At K W0 ms B ρ σ H' → tz D σ H') (k2 : ∀ c, o = .no c → ∀ H', At K W0 ms B ρ σ H' → WX' (.ref c) none σ H') : tSeq (tDrop (tCallS (spX K O) (WE WX') ta)) tz D σ H :=
  s_callX (D := { D with nx := tz D }) h ha ho k1 k2
section
variable {P : Program} {w : World} {mg : Str → Option Value} {base : Heap}
theorem raiseOk {x qual : Str} {st : Stmt} {f : Addr} {fd : FuncData} {N ps : List Str} {k : Nat} {O : List PyData → Out → Prop} (F : Fun K x qual st f fd) (S : FnScope N ps (defScope st)) (hG : ∀ ds o, O ds o → ds.length = ps.length)
    (hb : ∀ (cdv : Value) (A : Around) (outer : List Env) (s : Shared) (H : Hp) (E : XK), Room k (A.deeper (envOfC qual (defScope st) s.heap.objs.size f cdv)) →
      ∃ t, PSs (cxOf (L2.CX P w) P w K mg base N qual (defScope st) f cdv A outer s H E) (defBody st) t ∧ ∀ ds o, O ds o → ∀ (ms : List Addr) (σ : L2.St) (H : Hp) (Q : VK), At K W0 ms ⟨H, H⟩ (slots N.length ds) σ H →
        (∀ d, o = .ok d → ∀ v H', At K W0 ms ⟨H, H⟩ [] [] H' → Dp K (cut ms H') v d → Q v H') → (∀ c, o = .no c → ∀ H', Same H H' → E (.ref c) none H') → t { nx := fun _ H' => Q .non H', rt := Q } σ H) : FnOk P w K mg base (L2.CX P w) (k + 1) f fd ps (spX K O) := by
  refine F.okX S (fun vs H Q E h => ?_) fun cdv A outer s H vs Q E hr h => ?_
  · obtain ⟨ms, ds, o, l, d, g, _⟩ := h
    rw [dpa_len d, hG ds o g]
  · obtain ⟨ms, ds, o, l, d, g, q1, q2⟩ := h
    obtain ⟨t, ht, hr⟩ := hb cdv A outer s H E hr
    exact ⟨t, ht, hr ds o g ms _ H Q (at_start l d) (fun d e v H' a od => q1 d e v H' a.xw.same od) q2⟩
end
/-! a basis made -/
theorem run_make {C : Addr} {L : Nat} {p : Int} {R : List (List Int)} {Q : VK} (h : At K W0 ms B ρ σ H) (ha : EvD K W0 ta ρ [.int p, rowsT R]) (G : Good p L R)
    (k : ∀ (S : BA) H', S.p = p → S.st = basisL p R R.length → (S.x ≠ S.lp ∧ S.x ≠ S.lr ∧ S.lp ≠ S.lr) → Same H H' → At K (WB K C S) (S.x :: S.lp :: S.lr :: ms) ⟨H', H'⟩ ρ σ H' → Q (.ref S.x) H') : tMake C (spIn K C) [] E ta σ H Q :=
  ha ms B σ H h _ fun vs H1 h1 x1 o1 => by
    intro x dx hx hdx ne
    cases o1 with
    | @cons v1 _ _ _ o1 o2 =>
      cases o1
      cases o2 with
      | @cons w _ _ _ o2 o3 =>
        cases o3
        have xm : x ∉ ms := h1.live.fresh hx
        have dm : dx ∉ ms := h1.live.fresh hdx
        have kp0 : ∀ b o, H1 b = some o → upd (upd H1 dx (.own x)) x (.ins C dx []) b = some o := fun b o e => by
          rw [upd_ne (ne_of_none e hx), upd_ne (ne_of_none e hdx)]
          exact e
        have back : ∀ b, upd (upd H1 dx (.own x)) x (.ins C dx []) b = none → H1 b = none := fun b e => by
          cases q : H1 b with
          | none => rfl
          | some o => rw [kp0 b o q] at e; cases e
        show spIn K C (.ref x :: ([.int p, w] ++ [])) _ _ E
        refine ⟨x, dx, ms, w, L, p, R, rfl, xm, fun a z => ?_, upd_same, dp_mono ?_ _ _ o2, G, fun S H2 ex ep est nn l1 l2 kp lv pp cc => ⟨rfl, ?_⟩⟩
        · obtain ⟨o, e⟩ := h1.live a z
          exact ⟨o, kp0 a o e⟩
        · intro a o e
          have na : a ∉ ms := fun z => by rw [cut_in z] at e; cases e
          rw [cut_out na] at e
          have n2 : a ∉ x :: ms := fun z => by
            rcases List.mem_cons.mp z with z | z
            · rw [z, hx] at e; cases e
            · exact na z
          rw [cut_out n2]
          exact kp0 a o e
        · have s12 : Same H1 H2 := fun b o e => kp b o (ne_of_none e hx) (kp0 b o e)
          have m : Same (cut ms H1) (cut (S.x :: S.lp :: S.lr :: ms) H2) := fun a o e => by
            have na : a ∉ ms := fun z => by rw [cut_in z] at e; cases e
            rw [cut_out na] at e
            have n2 : a ∉ S.x :: S.lp :: S.lr :: ms := fun z => by
              simp only [List.mem_cons] at z
              rcases z with z | z | z | z
              · rw [z, ex, hx] at e; cases e
              · rw [z, back _ l1] at e; cases e
              · rw [z, back _ l2] at e; cases e
              · exact na z
            rw [cut_out n2]
            exact s12 a o e
          have e2 : Q (.ref S.x) H2 := k S H2 ep est nn (x1.same.trans s12) ⟨fun a z => by
            have z : a ∈ [S.x, S.lp, S.lr] := z
            simp only [List.mem_cons, List.not_mem_nil, or_false] at z ⊢
            rcases z with z | z | z <;> simp [z], lv, h1.env.mono m, pp, .refl _, Same.refl _, cc⟩
          rw [ex] at e2
          exact e2
theorem q_make {C : Addr} {L j : Nat} {p : Int} {R : List (List Int)} (h : At K W0 ms B ρ σ H) (ha : EvD K W0 ta ρ [.int p, rowsT R]) (G : Good p L R)
    (k : ∀ (S : BA) σ' H', S.p = p → S.st = basisL p R R.length → (S.x ≠ S.lp ∧ S.x ≠ S.lr ∧ S.lp ≠ S.lr) → Same H H' → At K (WB K C S) (S.x :: S.lp :: S.lr :: ms) ⟨H', H'⟩ (ρ.set j (.raw (.ref S.x))) σ' H' → tz D σ' H') : tSeq (tAsg (tMake C (spIn K C) [] E ta) (gName j)) tz D σ H :=
  run_make (Q := fun v H1 => gName j v σ H1 fun σ' H' => tz D σ' H') h ha G fun S H1 ep est nn s h1 => k S _ H1 ep est nn s (h1.set (s := .raw (.ref S.x)) rfl j)
theorem cut3 {a b c : Addr} : Same (cut (a :: b :: c :: ms) H) (cut ms H) := cut_cons.trans (cut_cons.trans cut_cons)
/-- len(C(..).rows) -/
theorem ev_makeLen {C : Addr} {L : Nat} {p : Int} {R : List (List Int)} (cl : Cls K C) (no : NoAttr K C "rows") (ha : EvD K W0 ta ρ [.int p, rowsT R]) (G : Good p L R) : Evd K W0 (tCB (rLenQ K) (tCons (tFld K (tMake C (spIn K C) [] E ta) "rows") tNil)) ρ (.int ((basisL p R R.length).rows.length : Int)) := fun ms B σ H h Q q => by
  unfold tCB tCons tFld
  refine run_make (C := C) h ha G fun S H1 ep est nn s1 h1 => ?_
  refine ⟨S.x, C, S.dx, fsB S, _, rfl, h1.p.1, cl, no, lk_rows S, ?_⟩
  obtain ⟨c1, _⟩ := h1.c
  unfold rowsL at c1
  cases c1 with
  | @lst _ v1 _ hs d1 =>
    have l1 := dpa_len d1
    rw [List.length_map, est] at l1
    refine ⟨S.r, v1, rfl, .inl (sql_mono cut_le hs), ?_⟩
    rw [l1]
    exact q _ H1 (h.same s1) (.of_same s1) (.int _)
end
end Sc

/-! k60, 11: rank, alternative, is_alternative. -/
namespace Sc
open PySem L2 Fw La
open PyProof.Rows (envOfC)
def isTgt (p : Int) : PyData → Bool
  | .tuple ds => (decide (1 ≤ ds.length) && decide (ds.length ≤ 24)) && ds.all (isRs p)
  | _ => false
theorem isPr_of {d : PyData} (h : isPr d = true) : ∃ p, d = .int p ∧ p ∈ primesL := by
  cases d with
  | int n => exact ⟨n, rfl, of_decide_eq_true h⟩
  | _ => cases h
theorem isTgt_of {p : Int} {d : PyData} (h : isTgt p d = true) : ∃ v, d = rowT v ∧ Res p v.length v ∧ 1 ≤ v.length ∧ v.length ≤ 24 := by
  cases d with
  | tuple ds =>
    simp only [isTgt, Bool.and_eq_true, decide_eq_true_eq] at h
    obtain ⟨v, rfl, bv⟩ := isRs_all h.2
    rw [List.length_map] at h
    exact ⟨v, rfl, ⟨rfl, bv⟩, h.1⟩
  | _ => cases h
/-- how the two first wrongs are told -/
inductive Ct (bp bt : Addr) : PyData → PyData → Out → Prop
  | p {pd td : PyData} : isPr pd = false → Ct bp bt pd td (.no bp)
  | t {p : Int} {td : PyData} : p ∈ primesL → isTgt p td = false → Ct bp bt (.int p) td (.no bt)
  | ok {p : Int} {T : List Int} : p ∈ primesL → Res p T.length T → 1 ≤ T.length → T.length ≤ 24 → Ct bp bt (.int p) (rowT T) (.ok .none)
def ansD (p : Int) (T : List Int) (R : List (List Int)) : PyData := .tuple [.str (if (altL p T R).1 then "sum" else "apart"), rowT (altL p T R).2]
inductive Al (bp bt br : Addr) : PyData → PyData → PyData → Out → Prop
  | p {pd td rd : PyData} : isPr pd = false → Al bp bt br pd td rd (.no bp)
  | t {p : Int} {td rd : PyData} : p ∈ primesL → isTgt p td = false → Al bp bt br (.int p) td rd (.no bt)
  | r {p : Int} {T : List Int} {rd : PyData} : p ∈ primesL → Res p T.length T → 1 ≤ T.length → T.length ≤ 24 → isRows p T.length rd = false → Al bp bt br (.int p) (rowT T) rd (.no br)
  | ok {p : Int} {T : List Int} {R : List (List Int)} : p ∈ primesL → Res p T.length T → Good p T.length R → Al bp bt br (.int p) (rowT T) (rowsT R) (.ok (ansD p T R))
theorem isRows_of {p : Int} {L : Nat} {d : PyData} (h : isRows p L d = true) : ∃ R : List (List Int), d = rowsT R ∧ (∀ r ∈ R, Res p L r) ∧ R.length ≤ 24 := by
  cases d with
  | tuple ds =>
    simp only [isRows, Bool.and_eq_true, decide_eq_true_eq] at h
    obtain ⟨hl, ha⟩ := h
    have key : ∀ ds : List PyData, ds.all (isRow p L) = true → ∃ R : List (List Int), ds = R.map rowT ∧ ∀ r ∈ R, Res p L r := by
      intro ds
      induction ds with
      | nil => exact fun _ => ⟨[], rfl, fun r h => nomatch h⟩
      | cons d ds ih =>
        intro h
        rw [List.all_cons, Bool.and_eq_true] at h
        obtain ⟨v, rfl, rv⟩ := isRow_of h.1
        obtain ⟨R, rfl, hR⟩ := ih h.2
        exact ⟨v :: R, rfl, fun r hr => (List.mem_cons.mp hr).elim (fun q => q ▸ rv) (hR r)⟩
    obtain ⟨R, rfl, hR⟩ := key ds ha
    rw [List.length_map] at hl
    exact ⟨R, rfl, hR, hl⟩
  | _ => cases h
section
variable {P : Program} {w : World} {K : PySem.W.Frag} {mg : Str → Option Value} {base : Heap}
def Oct (T : Txt K mg) (ds : List PyData) (o : Out) : Prop := ∃ pd td, ds = [pd, td] ∧ Ct T.cBadPrime T.cBadTarget pd td o
theorem ev_mostL {W : Wd} {ρ : List Sl} : Evd K W (tC (.int 24)) ρ (.int 24) := ev_int
theorem okcheck_target (T : Txt K mg) : FnOk P w K mg base (L2.CX P w) 4 T.acheck_target T.dcheck_target ["prime", "target"] (spX K (Oct T)) := by
  refine raiseOk T.Fcheck_target sccheck_target (by rintro _ _ ⟨_, _, rfl, _⟩; rfl) fun cdv A outer s H E hr => ⟨_, (pss_cons (ps_if (pt_not (kval (kcall (okis_prime T) (hr.mono (by decide)) T.g_is_prime T.k_is_prime T.b_is_prime (kpa (kvl 0) pa_nil)))) (pss_one (ps_raise rfl (takes_of rfl rfl rfl rfl) (pmk_own PySem.F.excBase_ValueError T.x_BadPrime T.g_BadPrime T.k_BadPrime (raises_own T.b_BadPrime T.t_BadPrime) (by exact rfl)))) pss_nil)
      (pss_one (ps_if (PW.pt (pw_or (pt_not (kval (kB (r := rIsi K) call_isi T.n_isinstance (kpa (kvl 1) (kpa (kty (T := "tuple") T.n_tuple) pa_nil))))) (pw_or (pt_not (pt_chain op_le op_le pe_int (kB (r := rLenQ K) call_len_seq T.n_len (kpa (kvl 1) pa_nil)) (kgc' T.c_MOST_LENGTH))) (pw_or1 (pt_not (kval (kcall (okis_row T) (hr.mono (by decide)) T.g_is_row T.k_is_row T.b_is_row (kpa (kvl 0) (kpa (kB (r := rLenQ K) call_len_seq T.n_len (kpa (kvl 1) pa_nil)) (kpa (kvl 1) pa_nil)))))))))) (pss_one (ps_raise rfl (takes_of rfl rfl rfl rfl) (pmk_own PySem.F.excBase_ValueError T.x_BadTarget T.g_BadTarget T.k_BadTarget (raises_own T.b_BadTarget T.t_BadTarget) (by exact rfl)))) pss_nil))), ?_⟩
  rintro _ o ⟨pd, td, rfl, hc⟩ ms σ H Q h kq kn
  have h : At K W0 ms ⟨H, H⟩ [.dat pd, .dat td] σ H := h
  refine q_when (b := !isPr pd) h (et_not (et_B (ev_call (ed_cons (evd_var rfl) ed_nil) ⟨pd, rfl, rfl⟩))) (fun q H1 h1 x1 => ?_) fun q H1 h1 x1 => ?_
  · cases hc with
    | p e => exact kn _ rfl H1 x1.same
    | t e _ => simp [isPr, e] at q
    | ok e _ _ _ => simp [isPr, e] at q
  · cases hc with
    | p e => rw [e] at q; cases q
    | @t p td e e2 =>
      refine s_if (b := true) h1 ?_ (fun q H2 h2 x2 => kn _ rfl H2 (x1.trans x2).same) fun q => nomatch q
      refine et_eq (et_or (a := !isTup td) (b := !isTgt p td) (et_not (et_B (ev_isTup (evd_var rfl)))) fun q2 => ?_) (by rw [e2]; simp)
      cases td with
      | tuple ds =>
        refine et_eq (et_or (a := !(decide ((1 : Int) ≤ (ds.length : Int)) && decide ((ds.length : Int) ≤ 24))) (b := !(ds.all (isRs p))) (et_not (et_test (ev_chain ev_int (ev_lenT (evd_var rfl)) ev_int))) fun q3 => ?_) ?_
        · have q4 : 1 ≤ ds.length ∧ ds.length ≤ 24 := by simp at q3; omega
          exact et_eq (et_not (et_B (ev_call (ed_cons (evd_var rfl) (ed_cons (ev_lenT (evd_var rfl)) (ed_cons (evd_var rfl) ed_nil))) ⟨p, ds.length, .tuple ds, by omega, rfl, rfl⟩))) (by simp [isRow])
        · simp only [isTgt]
          have e3 : decide ((1 : Int) ≤ (ds.length : Int)) = decide (1 ≤ ds.length) := decide_eq_decide.mpr (by omega)
          have e4 : decide ((ds.length : Int) ≤ 24) = decide (ds.length ≤ 24) := decide_eq_decide.mpr (by omega)
          rw [e3, e4]
          cases decide (1 ≤ ds.length) <;> cases decide (ds.length ≤ 24) <;> cases ds.all (isRs p) <;> rfl
      | _ => cases q2
    | @ok p T' e rT l1 l2 =>
      have et : isTgt p (rowT T') = true := by
        simp only [isTgt, rowT, List.length_map, Bool.and_eq_true, decide_eq_true_eq]
        refine ⟨⟨l1, l2⟩, ?_⟩
        have := isRow_to rT
        simp only [isRow, rowT, List.length_map, Bool.and_eq_true, decide_eq_true_eq] at this
        exact this.2
      refine s_if (b := false) h1 ?_ (fun q => nomatch q) fun q H2 h2 x2 => kq _ rfl .non H2 h2.nil .non
      refine et_or (a := false) (et_not (a := true) (et_B (evd_eq (ev_isTup (d := rowT T') (evd_var rfl)) rfl))) fun _ => et_or (a := false) (et_eq (et_not (et_test (ev_chain ev_int (ev_lenT (evd_var rfl)) ev_int))) ?_) fun _ => et_eq (et_not (et_B (ev_call (ed_cons (evd_var rfl) (ed_cons (evd_eq (ev_lenT (evd_var rfl)) (by rw [List.length_map])) (ed_cons (evd_var rfl) ed_nil))) ⟨p, T'.length, rowT T', by omega, rfl, rfl⟩))) (by rw [isRow_to rT]; rfl)
      rw [List.length_map, decide_eq_true (by omega), decide_eq_true (by omega)]
      rfl
/-! alternative -/
theorem sum_str : ("sum" : Str) = if true = true then "sum" else "apart" := rfl
def Oal (T : Txt K mg) (ds : List PyData) (o : Out) : Prop := ∃ pd td rd, ds = [pd, td, rd] ∧ Al T.cBadPrime T.cBadTarget T.cBadRows pd td rd o
theorem okalternative (T : Txt K mg) : FnOk P w K mg base (L2.CX P w) 6 T.aalternative T.dalternative ["prime", "target", "rows"] (spX K (Oal T)) := by
  refine raiseOk T.Falternative scalternative (by rintro _ _ ⟨_, _, _, rfl, _⟩; rfl) fun cdv A outer s H E hr => ⟨_, (pss_cons (kexpr (pe_callS (okcheck_target T) (hr.mono (by decide)) rfl T.g_check_target T.k_check_target T.b_check_target (fun σ => passAt (takes_of rfl rfl rfl rfl) σ) (kpa (kvc 0) (kpa (kvl 1) pa_nil)) (by kernel_rfl) (by kernel_rfl) (by kernel_rfl)))
      (pss_cons (ps_if (pt_not (kval (kcall (okis_rows T) (hr.mono (by decide)) T.g_is_rows T.k_is_rows T.b_is_rows (kpa (kvc 0) (kpa (kB (r := rLenQ K) call_len_seq T.n_len (kpa (kvl 1) pa_nil)) (kpa (kvl 2) pa_nil)))))) (pss_one (ps_raise rfl (takes_of rfl rfl rfl rfl) (pmk_own PySem.F.excBase_ValueError T.x_BadRows T.g_BadRows T.k_BadRows (raises_own T.b_BadRows T.t_BadRows) (by exact rfl)))) pss_nil)
      (pss_cons (ksl 3 scalternative.nd (pe_make T.mk_Basis (okBasis___init__ T) (hr.mono (by decide)) rfl T.g_Basis T.b_Basis___init__ .nil pass0 (kpa (kvc 0) (kpa (kvl 2) pa_nil)) (by kernel_rfl) (by kernel_rfl) (by kernel_rfl)))
      (pss_cons (kasg (pe_meth (kvl 3) T.cl_Basis T.m_Basis_reduced (okBasis_reduced T) (hr.mono (by decide)) T.b_Basis_reduced .nil pass0 (kpa (kTy (r := rLstOf K) call_list_of T.n_list (kpa (kvl 1) pa_nil)) (kpa (pe_op op_rep (pe_lst (kpa pe_int pa_nil)) (kB (r := rLenQ K) call_len_seq T.n_len (kpa (kvl 2) pa_nil))) pa_nil)) (by kernel_rfl) (by kernel_rfl)) (kgt (n := 2) (by rfl) (kgs (kgl 4 scalternative.nd) (kgs (kgl 5 scalternative.nd) pgs_nil))))
      (pss_cons (ps_if (pt_cmpR op_isN (kcall (okfirst_place T) (hr.mono (by decide)) T.g_first_place T.k_first_place T.b_first_place (kpa (kvl 4) pa_nil)) pe_non (nomark _)) (pss_one (ps_ret (pe_tup (kpa pe_str (kpa (kTy (r := rTupOf K) call_tuple_of T.n_tuple (kpa (pe_lc (own := [("one", 6)]) (g := (gName 6)) (tt := tYes) (by rfl) scalternative.nd (show PI _ _ _ (iList K _) from pi_list (kvl 5)) (blkOk_by (by kernel_rfl)) (fun _ _ _ _ _ => (kgl 6 scalternative.nd)) (fun _ _ _ _ _ => pts_nil) (fun _ _ _ _ _ => (pe_op op_mod (pe_un un_neg (kvl 6)) (kvc 0)))) pa_nil)) pa_nil))))) pss_nil)
      (pss_one (ps_ret (pe_tup (kpa pe_str (kpa (pe_meth (kvl 3) T.cl_Basis T.m_Basis_apart (okBasis_apart T) (hr.mono (by decide)) T.b_Basis_apart .nil pass0 (kpa (kvl 4) pa_nil) (by kernel_rfl) (by kernel_rfl)) pa_nil)))))))))), ?_⟩
  rintro _ o ⟨pd, td, rd, rfl, hc⟩ ms σ H Q h kq kn
  have h : At K W0 ms ⟨H, H⟩ [.dat pd, .dat td, .dat rd, .emp, .emp, .emp, .emp] σ H := h
  cases hc with
  | p e => exact q_callX h (ed_cons (evd_var rfl) (ed_cons (evd_var rfl) ed_nil)) ⟨_, _, rfl, .p e⟩ (fun d q => nomatch q) fun c q H1 h1 => by cases q; exact kn _ rfl H1 h1.xw.same
  | t e e2 => exact q_callX h (ed_cons (evd_var rfl) (ed_cons (evd_var rfl) ed_nil)) ⟨_, _, rfl, .t e e2⟩ (fun d q => nomatch q) fun c q H1 h1 => by cases q; exact kn _ rfl H1 h1.xw.same
  | @r p TT rd e rT l1 l2 e3 =>
    refine q_callX h (ed_cons (evd_var rfl) (ed_cons (evd_var rfl) ed_nil)) ⟨_, _, rfl, .ok e rT l1 l2⟩ (fun d q H1 h1 => ?_) fun c q => nomatch q
    exact q_when (b := true) h1 (et_eq (et_not (et_B (ev_call (ed_cons (evd_var rfl) (ed_cons (evd_eq (ev_lenT (evd_var rfl)) (by rw [List.length_map])) (ed_cons (evd_var rfl) ed_nil))) ⟨p, TT.length, rd, by omega, rfl, rfl⟩))) (by rw [e3]; rfl)) (fun _ H2 h2 x2 => kn _ rfl H2 h2.xw.same) fun q => nomatch q
  | @ok p TT R e rT G =>
    have l0 := G.L0
    have l1 := G.L1
    have rl := G.rl
    have lo := G.P.lo
    have hi := G.P.hi
    refine q_callX h (ed_cons (evd_var rfl) (ed_cons (evd_var rfl) ed_nil)) ⟨_, _, rfl, .ok e rT l0 l1⟩ (fun d q H1 h1 => ?_) fun c q => nomatch q
    refine q_when (b := false) h1 (et_eq (et_not (et_B (ev_call (ed_cons (evd_var rfl) (ed_cons (evd_eq (ev_lenT (evd_var rfl)) (by rw [List.length_map])) (ed_cons (evd_var rfl) ed_nil))) ⟨p, TT.length, rowsT R, by omega, rfl, rfl⟩))) (by rw [isRows_to G.R rl]; rfl)) (fun q => nomatch q) fun _ H2 h2 x2 => ?_
    refine q_make (C := T.cBasis) h2 (ed_cons (evd_var rfl) (ed_cons (evd_var rfl) ed_nil)) G fun S σ3 H3 ep est nn s3 h4 => ?_
    dsimp only [List.set] at h4
    have fin : ∀ {v : V} {H' : Hp} {σ' : L2.St} {ρ' : List Sl}, At K (WB K T.cBasis S) (S.x :: S.lp :: S.lr :: ms) ⟨H3, H3⟩ ρ' σ' H' → Dp K (cut (S.x :: S.lp :: S.lr :: ms) H') v (ansD p TT R) → Q v H' := fun {v H' σ' ρ'} a od =>
      kq _ rfl v H' (h2.nil.same (s3.trans (wb_same a.xw h4.p a.p))) (dp_mono cut3 _ _ od)
    have bi := basis_inv G.P G.R R.length (Nat.le_refl _)
    have zr : Res p R.length (List.replicate R.length (0 : Int)) := ⟨by simp, fun x hx => by rw [List.eq_of_mem_replicate hx]; omega⟩
    obtain ⟨τ, Dr⟩ := red_all bi (show 0 < p by omega) rT zr
    have r1 := Dr.r1
    have r2 := Dr.r2
    have ea : altL p TT R = altR p S.st (redB p S.st TT (List.replicate R.length 0)) := by rw [est]; rfl
    rw [← est] at r1 r2 bi Dr
    refine q_tgt h4 (ev_meth rfl (lk_reduced S) (ed_cons (ev_lstT (evd_var rfl)) (ed_cons (evd_eq (ev_of_ef (ef_rep (n := R.length) (ed_cons ev_int ed_nil) (evd_eq (ev_lenT (evd_var rfl)) (by rw [List.length_map])) (by omega))) (e := rowL (List.replicate R.length 0)) (by unfold rowL; rw [List.map_replicate])) ed_nil)) ⟨TT.length, R.length, R, TT, List.replicate R.length 0, by rw [ep]; exact bi, by omega, by omega, l1, rl, by rw [ep]; exact rT, by rw [ep]; exact zr, rfl, rfl⟩) (tg_tup (tgs_cons tg_name (tgs_cons tg_name tgs_nil)) rfl) fun σ5 H5 h5 _ => ?_
    dsimp only [List.set] at h5
    rw [ep] at h5
    unfold ansD at fin
    rw [ea] at fin
    generalize hq : redB p S.st TT (List.replicate R.length 0) = q2 at h5 fin r1 r2 Dr
    obtain ⟨ro, mo⟩ := q2
    dsimp only at h5 fin r1 r2
    unfold altR at fin
    dsimp only at fin
    refine q_when h5 (et_test (ev_isNo (ev_call (ed_cons (evd_var rfl) ed_nil) ⟨ro, rfl, rfl⟩))) (fun q H6 h6 _ => ?_) fun q H6 h6 _ => ?_
    · cases f : firstP ro with
      | some k2 => rw [f] at q; cases q
      | none =>
        rw [f] at fin
        refine s_fin h6 (ev_tup (ed_cons ev_str (ed_cons (evd_eq (ev_tupL (ev_lc0 (j := 6) (xs := mo) (enc := PyData.int) (f := fun x => .int (-x % p)) (src_list (evd_var rfl)) (by rw [r2.len]; omega) fun x _ => ev_mod (ev_neg (evd_var rfl)) (evd_var rfl) (by omega))) (e := rowT (mo.map fun x => -x % p)) (by unfold rowT; rw [List.map_map]; rfl)) ed_nil)) (by show 2 ≤ 100000; decide)) fun v H' a od => fin a od
    · cases f : firstP ro with
      | none => rw [f] at q; cases q
      | some k2 =>
        rw [f] at fin
        refine s_fin h6 (ev_tup (ed_cons ev_str (ed_cons (ev_meth rfl (lk_apart S) (ed_cons (evd_var rfl) ed_nil) ⟨TT.length, R.length, k2, R, ro, by rw [ep]; exact bi, by rw [ep]; exact G.P, l1, rl, by rw [ep]; exact r1, f, rfl, rfl⟩) ed_nil)) (by show 2 ≤ 100000; decide)) fun v H' a od => fin a ?_
        rw [ep] at od
        exact od
end
end Sc

/-! k60, 12: is_alternative, rank, the law's own judge of answers. -/
namespace Sc
open PySem L2 Fw La
open PyProof.Rows (envOfC)
theorem eqvAll_ints : ∀ a b : List Int, PyData.eqvAll (a.map .int) (b.map .int) = decide (a = b)
  | [], [] => by simp [PyData.eqvAll]
  | [], _ :: _ => by simp [PyData.eqvAll]
  | _ :: _, [] => by simp [PyData.eqvAll]
  | x :: a, y :: b => by
    simp only [List.map_cons, PyData.eqvAll, eqvAll_ints a b, PyData.eqv]
    by_cases h : x = y
    · subst h; simp
    · simp [h]
theorem eqv_row (a b : List Int) : PyData.eqv (rowT a) (rowT b) = decide (a = b) := by
  show PyData.eqv (.tuple (a.map .int)) (.tuple (b.map .int)) = _
  rw [← eqvAll_ints]
  simp [PyData.eqv]
def vecOf : PyData → List Int
  | .tuple ds => ds.map fun | .int n => n | _ => 0
  | _ => []
theorem vec_row (v : List Int) : vecOf (rowT v) = v := by
  show (v.map PyData.int).map _ = v
  rw [List.map_map]
  conv => rhs; rw [← List.map_id v]
  exact List.map_congr_left fun x _ => rfl
def sumOk (p : Int) (T : List Int) (R : List (List Int)) (y : PyData) : Bool := isRow p R.length y && decide (mixL p T.length R (vecOf y) = T)
def apOk (p : Int) (T : List Int) (R : List (List Int)) (y : PyData) : Bool := isRow p T.length y && (decide (dotS T (vecOf y) % p = 1) && R.all fun r => decide (dotS r (vecOf y) % p = 0))
def ansB (p : Int) (T : List Int) (R : List (List Int)) : PyData → Bool
  | .tuple [.str s, y] => if s = "sum" then sumOk p T R y else if s = "apart" then apOk p T R y else false
  | _ => false
/-- the things that are asked -/
inductive Dom : PyData → Prop
  | no {x : PyData} : isTup x = false → Dom x
  | len {ds : List PyData} : ds.length ≠ 2 → Dom (.tuple ds)
  | str (s : Str) (y : PyData) : Dom (.tuple [.str s, y])
  | int (n : Int) (y : PyData) : Dom (.tuple [.int n, y])
theorem ansB_no {p : Int} {T : List Int} {R : List (List Int)} {x : PyData} (h : isTup x = false) : ansB p T R x = false := by
  cases x <;> first | rfl | cases h
theorem ansB_len {p : Int} {T : List Int} {R : List (List Int)} {ds : List PyData} (h : ds.length ≠ 2) : ansB p T R (.tuple ds) = false := by
  match ds, h with
  | [], _ => rfl
  | [a], _ => cases a <;> rfl
  | [a, b], h => exact absurd rfl h
  | a :: b :: c :: ds, _ => cases a <;> rfl
inductive Ia (bp bt br : Addr) : PyData → PyData → PyData → PyData → Out → Prop
  | p {pd td rd x : PyData} : isPr pd = false → Ia bp bt br pd td rd x (.no bp)
  | t {p : Int} {td rd x : PyData} : p ∈ primesL → isTgt p td = false → Ia bp bt br (.int p) td rd x (.no bt)
  | r {p : Int} {T : List Int} {rd x : PyData} : p ∈ primesL → Res p T.length T → 1 ≤ T.length → T.length ≤ 24 → isRows p T.length rd = false → Ia bp bt br (.int p) (rowT T) rd x (.no br)
  | ok {p : Int} {T : List Int} {R : List (List Int)} {x : PyData} : p ∈ primesL → Res p T.length T → Good p T.length R → Dom x → Ia bp bt br (.int p) (rowT T) (rowsT R) x (.ok (.bool (ansB p T R x)))
section
variable {P : Program} {w : World} {K : PySem.W.Frag} {mg : Str → Option Value} {base : Heap}
def Oia (T : Txt K mg) (ds : List PyData) (o : Out) : Prop := ∃ pd td rd x, ds = [pd, td, rd, x] ∧ Ia T.cBadPrime T.cBadTarget T.cBadRows pd td rd x o
theorem ev_rows0 {W : Wd} {ρ : List Sl} {p : Int} {R : List (List Int)} {tt : TT} {te tl : TE} {j : Nat} {f : List Int → PyData} (sr : Evd K W tl ρ (rowsT R)) (hl : R.length ≤ 24) (he : ∀ r ∈ R, Evd K W te ((ρ.set j .emp).set j (.dat (rowT r))) (f r)) :
    Evd K W (tLc (iTup K tl) (gName j) tYes te [j]) ρ (.list (R.map f)) := ev_lc0 (enc := rowT) (src_tup sr) (by omega) he
theorem okis_alternative (T : Txt K mg) : FnOk P w K mg base (L2.CX P w) 6 T.ais_alternative T.dis_alternative ["prime", "target", "rows", "thing"] (spX K (Oia T)) := by
  refine raiseOk T.Fis_alternative scis_alternative (by rintro _ _ ⟨_, _, _, _, rfl, _⟩; rfl) fun cdv A outer s H E hr => ⟨_, (pss_cons (kexpr (pe_callS (okcheck_target T) (hr.mono (by decide)) rfl T.g_check_target T.k_check_target T.b_check_target (fun σ => passAt (takes_of rfl rfl rfl rfl) σ) (kpa (kvc 0) (kpa (kvl 1) pa_nil)) (by kernel_rfl) (by kernel_rfl) (by kernel_rfl)))
      (pss_cons (ps_if (pt_not (kval (kcall (okis_rows T) (hr.mono (by decide)) T.g_is_rows T.k_is_rows T.b_is_rows (kpa (kvc 0) (kpa (kB (r := rLenQ K) call_len_seq T.n_len (kpa (kvl 1) pa_nil)) (kpa (kvl 2) pa_nil)))))) (pss_one (ps_raise rfl (takes_of rfl rfl rfl rfl) (pmk_own PySem.F.excBase_ValueError T.x_BadRows T.g_BadRows T.k_BadRows (raises_own T.b_BadRows T.t_BadRows) (by exact rfl)))) pss_nil)
      (pss_cons (ps_if (PW.pt (pw_or (pt_not (kval (kB (r := rIsi K) call_isi T.n_isinstance (kpa (kvc 3) (kpa (kty (T := "tuple") T.n_tuple) pa_nil))))) (pw_or1 (pt_cmpR op_ne (kB (r := rLenQ K) call_len_seq T.n_len (kpa (kvc 3) pa_nil)) pe_int (nomark _))))) (pss_one (ps_ret pe_bl)) pss_nil)
      (pss_cons (ps_if (pt_cmpR op_eq (pe_ix (r := rIxT K) ix_tup (kvc 3) pe_int (fun _ _ => rfl)) pe_str (nomark _)) (pss_one (ps_ret (pe_and (kcall (okis_row T) (hr.mono (by decide)) T.g_is_row T.k_is_row T.b_is_row (kpa (kvc 0) (kpa (kB (r := rLenQ K) call_len_seq T.n_len (kpa (kvl 2) pa_nil)) (kpa (pe_ix (r := rIxT K) ix_tup (kvc 3) pe_int (fun _ _ => rfl)) pa_nil)))) (pe_one (pe_cmpR (r := rEqD K) (op_eqD hr.units) (kcall (okcombination T) (hr.mono (by decide)) T.g_combination T.k_combination T.b_combination (kpa (kvc 0) (kpa (kB (r := rLenQ K) call_len_seq T.n_len (kpa (kvl 1) pa_nil)) (kpa (kvl 2) (kpa (pe_ix (r := rIxT K) ix_tup (kvc 3) pe_int (fun _ _ => rfl)) pa_nil))))) (kvl 1) (nomark _)))))) pss_nil)
      (pss_cons (ps_if (PW.pt (pw_or (pt_cmpR op_ne (pe_ix (r := rIxT K) ix_tup (kvc 3) pe_int (fun _ _ => rfl)) pe_str (nomark _)) (pw_or1 (pt_not (kval (kcall (okis_row T) (hr.mono (by decide)) T.g_is_row T.k_is_row T.b_is_row (kpa (kvc 0) (kpa (kB (r := rLenQ K) call_len_seq T.n_len (kpa (kvl 1) pa_nil)) (kpa (pe_ix (r := rIxT K) ix_tup (kvc 3) pe_int (fun _ _ => rfl)) pa_nil))))))))) (pss_one (ps_ret pe_bl)) pss_nil)
      (pss_one (ps_ret (pe_and (pe_cmpR op_eq (kcall (okproduct T) (hr.mono (by decide)) T.g_product T.k_product T.b_product (kpa (kvc 0) (kpa (kvl 1) (kpa (pe_ix (r := rIxT K) ix_tup (kvc 3) pe_int (fun _ _ => rfl)) pa_nil)))) pe_int (nomark _)) (pe_one (kB (r := rAll K) (cr_all rfl) T.n_all (kpa (pe_lc (own := [("row", 4)]) (g := (gName 4)) (tt := tYes) (by rfl) scis_alternative.nd (show PI _ _ _ (iTup K _) from pi_tup (kvl 2)) (blkOk_by (by kernel_rfl)) (fun _ _ _ _ _ => (kgl 4 scis_alternative.nd)) (fun _ _ _ _ _ => pts_nil) (fun _ _ _ _ _ => (pe_cmpR op_eq (kcall (okproduct T) (hr.mono (by decide)) T.g_product T.k_product T.b_product (kpa (kvc 0) (kpa (kvl 4) (kpa (pe_ix (r := rIxT K) ix_tup (kvc 3) pe_int (fun _ _ => rfl)) pa_nil)))) pe_int (nomark _)))) pa_nil))))))))))), ?_⟩
  rintro _ o ⟨pd, td, rd, x, rfl, hc⟩ ms σ H Q h kq kn
  have h : At K W0 ms ⟨H, H⟩ [.dat pd, .dat td, .dat rd, .dat x, .emp] σ H := h
  cases hc with
  | p e => exact q_callX h (ed_cons (evd_var rfl) (ed_cons (evd_var rfl) ed_nil)) ⟨_, _, rfl, .p e⟩ (fun d q => nomatch q) fun c q H1 h1 => by cases q; exact kn _ rfl H1 h1.xw.same
  | t e e2 => exact q_callX h (ed_cons (evd_var rfl) (ed_cons (evd_var rfl) ed_nil)) ⟨_, _, rfl, .t e e2⟩ (fun d q => nomatch q) fun c q H1 h1 => by cases q; exact kn _ rfl H1 h1.xw.same
  | @r p TT rd x e rT l1 l2 e3 =>
    refine q_callX h (ed_cons (evd_var rfl) (ed_cons (evd_var rfl) ed_nil)) ⟨_, _, rfl, .ok e rT l1 l2⟩ (fun d q H1 h1 => ?_) fun c q => nomatch q
    exact q_when (b := true) h1 (et_eq (et_not (et_B (ev_call (ed_cons (evd_var rfl) (ed_cons (evd_eq (ev_lenT (evd_var rfl)) (by rw [List.length_map])) (ed_cons (evd_var rfl) ed_nil))) ⟨p, TT.length, rd, by omega, rfl, rfl⟩))) (by rw [e3]; rfl)) (fun _ H2 h2 x2 => kn _ rfl H2 h2.xw.same) fun q => nomatch q
  | @ok p TT R x e rT G dx =>
    have l0 := G.L0
    have l1 := G.L1
    have rl := G.rl
    have lo := G.P.lo
    have hi := G.P.hi
    refine q_callX h (ed_cons (evd_var rfl) (ed_cons (evd_var rfl) ed_nil)) ⟨_, _, rfl, .ok e rT l0 l1⟩ (fun d q H1 h1 => ?_) fun c q => nomatch q
    refine q_when (b := false) h1 (et_eq (et_not (et_B (ev_call (ed_cons (evd_var rfl) (ed_cons (evd_eq (ev_lenT (evd_var rfl)) (by rw [List.length_map])) (ed_cons (evd_var rfl) ed_nil))) ⟨p, TT.length, rowsT R, by omega, rfl, rfl⟩))) (by rw [isRows_to G.R rl]; rfl)) (fun q => nomatch q) fun _ H2 h2 x2 => ?_
    have kq' : ∀ v H', At K W0 ms ⟨H, H⟩ [] [] H' → Dp K (cut ms H') v (.bool (ansB p TT R x)) → Q v H' := kq _ rfl
    clear kq kn h h1
    cases dx with
    | no z =>
      refine q_when (b := true) h2 (et_or (a := true) (b := false) (et_not (a := false) (et_B (evd_eq (ev_isTup (d := x) (evd_var rfl)) (by rw [z])))) fun q => nomatch q) (fun _ H3 h3 _ => s_fin h3 ev_bl fun v H' a o => kq' v H' a ?_) fun q => nomatch q
      rw [ansB_no z]
      exact o
    | @len ds z =>
      refine q_when (b := true) h2 (et_or (a := false) (b := true) (et_not (a := true) (et_B (evd_eq (ev_isTup (d := .tuple ds) (evd_var rfl)) rfl))) fun _ => et_eq (et_test (ev_neI (ev_lenT (evd_var rfl)) ev_int)) ?_) (fun _ H3 h3 _ => s_fin h3 ev_bl fun v H' a o => kq' v H' a ?_) fun q => nomatch q
      · rw [decide_eq_false (by omega)]; rfl
      · rw [ansB_len z]
        exact o
    | int n y =>
      have eS : ∀ {ρ : List Sl} {te : TE} {s : Str}, Evd K W0 te ρ (.int n) → Evd K W0 (tOp rEq te (tC (.str s))) ρ (.bool false) := fun {ρ te s} e => ev_op e ev_str fun ms H x y _ hx hy Q q => by
        cases hx; cases hy
        exact ⟨rfl, q _ H (Same.refl H) (by rw [decide_eq_false (fun z => nomatch z)]; exact .bl _)⟩
      have nS : ∀ {ρ : List Sl} {te : TE} {s : Str}, Evd K W0 te ρ (.int n) → Evd K W0 (tOp rNe te (tC (.str s))) ρ (.bool true) := fun {ρ te s} e => ev_op e ev_str fun ms H x y _ hx hy Q q => by
        cases hx; cases hy
        exact ⟨rfl, q _ H (Same.refl H) (by rw [decide_eq_false (fun z => nomatch z)]; exact .bl _)⟩
      refine q_when (b := false) h2 (et_or (a := false) (b := false) (et_not (a := true) (et_B (evd_eq (ev_isTup (d := .tuple [.int n, y]) (evd_var rfl)) rfl))) fun _ => et_eq (et_test (ev_neI (ev_lenT (evd_var rfl)) ev_int)) rfl) (fun q => nomatch q) fun _ H3 h3 _ => ?_
      refine q_when (b := false) h3 (et_test (eS (ev_ixT (evd_var rfl) ev_int rfl))) (fun q => nomatch q) fun _ H4 h4 _ => ?_
      exact q_when (b := true) h4 (et_or (a := true) (b := false) (et_test (nS (ev_ixT (evd_var rfl) ev_int rfl))) fun q => nomatch q) (fun _ H5 h5 _ => s_fin h5 ev_bl kq') fun q => nomatch q
    | str s y =>
      refine q_when (b := false) h2 (et_or (a := false) (b := false) (et_not (a := true) (et_B (evd_eq (ev_isTup (d := .tuple [.str s, y]) (evd_var rfl)) rfl))) fun _ => et_eq (et_test (ev_neI (ev_lenT (evd_var rfl)) ev_int)) rfl) (fun q => nomatch q) fun _ H3 h3 _ => ?_
      have ans : ansB p TT R (.tuple [.str s, y]) = if s = "sum" then sumOk p TT R y else if s = "apart" then apOk p TT R y else false := rfl
      rw [ans] at kq'
      have row : ∀ {ρ : List Sl} {ta tb tc : TE} {L : Nat} {E : XK}, L ≤ 1000 → Evd K W0 ta ρ (.int p) → Evd K W0 tb ρ (.int (L : Int)) → Evd K W0 tc ρ y → Evd K W0 (tCall (spP K Grw) [] E (tCons ta (tCons tb (tCons tc tNil)))) ρ (.bool (isRow p L y)) := fun hL a b c => ev_call (ed_cons a (ed_cons b (ed_cons c ed_nil))) ⟨p, _, y, hL, rfl, rfl⟩
      refine q_when (b := decide (s = "sum")) h3 (et_test (ev_eqS (ev_ixT (evd_var rfl) ev_int rfl) ev_str)) (fun q H4 h4 _ => ?_) fun q H4 h4 _ => ?_
      · rw [if_pos (of_decide_eq_true q)] at kq'
        refine s_fin h4 (ev_andV (a := isRow p R.length y) (b := decide (mixL p TT.length R (vecOf y) = TT)) (row (by omega) (evd_var rfl) (evd_eq (ev_lenT (evd_var rfl)) (by rw [List.length_map])) (ev_ixT (evd_var rfl) ev_int rfl)) fun q2 => ?_) kq'
        obtain ⟨v, rfl, rv⟩ := isRow_of q2
        refine evd_eq (ev_eqD (ev_call (ed_cons (evd_var rfl) (ed_cons (evd_eq (ev_lenT (evd_var rfl)) (by rw [List.length_map])) (ed_cons (evd_var rfl) (ed_cons (ev_ixT (evd_var rfl) ev_int rfl) ed_nil)))) ⟨p, TT.length, R, v, G, rv, rfl, rfl⟩) (evd_var rfl) ((shp_row _).shaped (by decide)) ((shp_row _).shaped (by decide))) ?_
        rw [eqv_row, vec_row]
      · rw [if_neg (of_decide_eq_false q)] at kq'
        refine q_when (b := !(decide (s = "apart") && isRow p TT.length y)) h4 (et_eq (et_or (a := !decide (s = "apart")) (b := !isRow p TT.length y) (et_test (ev_neS (ev_ixT (evd_var rfl) ev_int rfl) ev_str)) fun q2 => et_not (et_B (row (by omega) (evd_var rfl) (evd_eq (ev_lenT (evd_var rfl)) (by rw [List.length_map])) (ev_ixT (evd_var rfl) ev_int rfl)))) (by rw [Bool.not_and])) (fun q2 H5 h5 _ => ?_) fun q2 H5 h5 _ => ?_
        · refine s_fin h5 ev_bl fun v H' a o => kq' v H' a ?_
          have : (if s = "apart" then apOk p TT R y else false) = false := by
            by_cases c : s = "apart"
            · rw [if_pos c]
              have : isRow p TT.length y = false := by simpa [c] using q2
              unfold apOk
              rw [this]
              rfl
            · rw [if_neg c]
          rw [this]
          exact o
        · have q3 : s = "apart" ∧ isRow p TT.length y = true := by simpa using q2
          rw [if_pos q3.1] at kq'
          obtain ⟨v, rfl, rv⟩ := isRow_of q3.2
          unfold apOk at kq'
          rw [q3.2, Bool.true_and, vec_row] at kq'
          refine s_fin h5 (ev_andV (a := decide (dotS TT v % p = 1)) (b := R.all fun r => decide (dotS r v % p = 0)) (ev_eqI (ev_call (ed_cons (evd_var rfl) (ed_cons (evd_var rfl) (ed_cons (ev_ixT (evd_var rfl) ev_int rfl) ed_nil))) ⟨p, TT.length, TT, v, by omega, hi, by omega, rT, rv, rfl, rfl⟩) ev_int) fun _ => ?_) kq'
          exact evd_eq (ev_all (bs := R.map fun r => decide (dotS r v % p = 0)) (ev_rows0 (p := p) (tt := tYes) (f := fun r => .bool (decide (dotS r v % p = 0))) (evd_var rfl) rl fun r hr => ev_eqI (ev_call (ed_cons (evd_var rfl) (ed_cons (evd_var rfl) (ed_cons (ev_ixT (evd_var rfl) ev_int rfl) ed_nil))) ⟨p, TT.length, r, v, by omega, hi, by omega, G.R r hr, rv, rfl, rfl⟩) ev_int) (by rw [List.map_map]; rfl)) (by rw [List.all_map]; rfl)
end
end Sc

/-! k60, 13: rank; the law's own judge of answers. -/
namespace Sc
open PySem L2 Fw La
open PyProof.Rows (envOfC)
def headLen : PyData → Nat
  | .tuple (.tuple es :: _) => es.length
  | _ => 1
def hasHead : PyData → Bool
  | .tuple (.tuple _ :: _) => true
  | _ => false
def nonE : PyData → Bool
  | .tuple [] => false
  | _ => true
inductive Rk (bp br : Addr) : PyData → PyData → Out → Prop
  | p {pd rd : PyData} : isPr pd = false → Rk bp br pd rd (.no bp)
  | r {p : Int} {rd : PyData} : p ∈ primesL → SeqAt.shaped rd = true → ((decide (1 ≤ headLen rd) && decide (headLen rd ≤ 24)) = false ∨ isRows p (headLen rd) rd = false) → Rk bp br (.int p) rd (.no br)
  | ok {p : Int} {R : List (List Int)} : p ∈ primesL → Good p (headLen (rowsT R)) R → Rk bp br (.int p) (rowsT R) (.ok (.int (lrank p R : Int)))
theorem atI_zero {d : PyData} {ds : List PyData} : atI (d :: ds) 0 = some d := by
  unfold atI
  rw [show (0 : Int) = ((0 : Nat) : Int) from rfl, ix_nat (by simp)]
  rfl
def second : PyData → PyData
  | .tuple [_, y] => y
  | _ => .none
theorem filter_none {α : Type} (xs : List α) (q : α → Bool) : (xs.filter fun x => !q x).isEmpty = xs.all q := by
  induction xs with
  | nil => rfl
  | cons x xs ih =>
    rw [List.all_cons, ← ih]
    cases h : q x with
    | true => rw [List.filter_cons, h]; rfl
    | false => rw [List.filter_cons, h]; rfl
theorem shp_rows (R : List (List Int)) : Shp 2 (rowsT R) := shp_tuple fun d hd => by
  obtain ⟨r, _, rfl⟩ := List.mem_map.mp hd
  exact shp_row r
theorem eqv_nil {ds : List PyData} : PyData.eqv (.tuple ds) (.tuple []) = ds.isEmpty := by
  cases ds <;> simp [PyData.eqv, PyData.eqvAll]
section
variable {P : Program} {w : World} {K : PySem.W.Frag} {mg : Str → Option Value} {base : Heap}
def Ork (T : Txt K mg) (ds : List PyData) (o : Out) : Prop := ∃ pd rd, ds = [pd, rd] ∧ Rk T.cBadPrime T.cBadRows pd rd o
theorem okrank (T : Txt K mg) : FnOk P w K mg base (L2.CX P w) 6 T.arank T.drank ["prime", "rows"] (spX K (Ork T)) := by
  refine raiseOk T.Frank scrank (by rintro _ _ ⟨_, _, rfl, _⟩; rfl) fun cdv A outer s H E hr => ⟨_, (pss_cons (ps_if (pt_not (kval (kcall (okis_prime T) (hr.mono (by decide)) T.g_is_prime T.k_is_prime T.b_is_prime (kpa (kvl 0) pa_nil)))) (pss_one (ps_raise rfl (takes_of rfl rfl rfl rfl) (pmk_own PySem.F.excBase_ValueError T.x_BadPrime T.g_BadPrime T.k_BadPrime (raises_own T.b_BadPrime T.t_BadPrime) (by exact rfl)))) pss_nil)
      (pss_cons (ksl 2 scrank.nd pe_int)
      (pss_cons (ps_if (PW.pt (pw_and (kval (kB (r := rIsi K) call_isi T.n_isinstance (kpa (kvl 1) (kpa (kty (T := "tuple") T.n_tuple) pa_nil)))) (pw_and (pt_cmpR (r := rNeD K) (op_neD hr.units) (kvl 1) (pe_tup pa_nil) (nomark _)) (pw_and1 (kval (kB (r := rIsi K) call_isi T.n_isinstance (kpa (pe_ix (r := rIxT K) ix_tup (kvl 1) pe_int (fun _ _ => rfl)) (kpa (kty (T := "tuple") T.n_tuple) pa_nil)))))))) (pss_one (ksl 2 scrank.nd (kB (r := rLenQ K) call_len_seq T.n_len (kpa (pe_ix (r := rIxT K) ix_tup (kvl 1) pe_int (fun _ _ => rfl)) pa_nil)))) pss_nil)
      (pss_cons (ps_if (PW.pt (pw_or (pt_not (pt_chain op_le op_le pe_int (kvl 2) (kgc' T.c_MOST_LENGTH))) (pw_or1 (pt_not (kval (kcall (okis_rows T) (hr.mono (by decide)) T.g_is_rows T.k_is_rows T.b_is_rows (kpa (kvl 0) (kpa (kvl 2) (kpa (kvl 1) pa_nil))))))))) (pss_one (ps_raise rfl (takes_of rfl rfl rfl rfl) (pmk_own PySem.F.excBase_ValueError T.x_BadRows T.g_BadRows T.k_BadRows (raises_own T.b_BadRows T.t_BadRows) (by exact rfl)))) pss_nil)
      (pss_one (ps_ret (kB (r := rLenQ K) call_len_seq T.n_len (kpa (show PE _ _ (tFld K _ _) from pe_fld (pe_make T.mk_Basis (okBasis___init__ T) (hr.mono (by decide)) rfl T.g_Basis T.b_Basis___init__ .nil pass0 (kpa (kvl 0) (kpa (kvl 1) pa_nil)) (by kernel_rfl) (by kernel_rfl) (by kernel_rfl)) (by kernel_rfl)) pa_nil)))))))), ?_⟩
  rintro _ o ⟨pd, rd, rfl, hc⟩ ms σ H Q h kq kn
  have h : At K W0 ms ⟨H, H⟩ [.dat pd, .dat rd, .emp] σ H := h
  refine q_when (b := !isPr pd) h (et_not (et_B (ev_call (ed_cons (evd_var rfl) ed_nil) ⟨pd, rfl, rfl⟩))) (fun q H1 h1 x1 => ?_) fun q H1 h1 x1 => ?_
  · cases hc with
    | p e => exact kn _ rfl H1 x1.same
    | r e _ => simp [isPr, e] at q
    | ok e _ => simp [isPr, e] at q
  · have hp : isPr pd = true := by simpa using q
    have hs : SeqAt.shaped rd = true := by
      cases hc with
      | p e => rw [e] at hp; cases hp
      | r _ s _ => exact s
      | ok _ _ => exact (shp_rows _).shaped (by decide)
    refine q_asg h1 ev_int fun σ2 H2 h2 x2 => ?_
    dsimp only [List.set] at h2
    refine q_cut (M := fun σ' H' => At K W0 ms ⟨H, H⟩ [.dat pd, .dat rd, .dat (.int (headLen rd : Int))] σ' H') (fun Z hZ => ?_) fun σ3 H3 h3 => ?_
    · refine s_if (b := isTup rd && (nonE rd && hasHead rd)) h2 (et_and (et_B (ev_isTup (evd_var rfl))) fun q1 => et_and (a := nonE rd) ?_ fun q2 => ?_) (fun q1 H3 h3 _ => ?_) fun q1 H3 h3 _ => hZ _ _ ?_
      · cases rd with
        | tuple ds =>
          refine et_eq (et_test (ev_neD (evd_var rfl) (ev_tup ed_nil (Nat.zero_le _)) hs ((shp_tuple (n := 0) (by simp)).shaped (by decide)))) ?_
          rw [eqv_nil]
          cases ds <;> rfl
        | _ => cases q1
      · cases rd with
        | tuple ds =>
          cases ds with
          | nil => cases q2
          | cons d ds =>
            refine et_eq (et_B (ev_isTup (d := d) (ev_ixT (evd_var rfl) ev_int atI_zero))) ?_
            cases d <;> rfl
        | _ => cases q1
      · have q4 : hasHead rd = true := by
          cases hh : hasHead rd with
          | true => rfl
          | false => rw [hh] at q1; simp at q1
        unfold hasHead at q4
        split at q4
        · refine s_asg h3 (ev_lenT (ev_ixT (evd_var rfl) ev_int atI_zero)) fun σ4 H4 h4 _ => ?_
          dsimp only [List.set] at h4
          exact hZ _ _ h4
        · cases q4
      · have q4 : headLen rd = 1 := by
          unfold headLen
          split
          · simp [isTup, nonE, hasHead] at q1
          · rfl
        rw [q4]
        exact h3
    · have e3 : decide ((1 : Int) ≤ (headLen rd : Int)) = decide (1 ≤ headLen rd) := decide_eq_decide.mpr (by omega)
      have e4 : decide ((headLen rd : Int) ≤ 24) = decide (headLen rd ≤ 24) := decide_eq_decide.mpr (by omega)
      cases hc with
      | p e => rw [e] at hp; cases hp
      | @r p _ e s' c =>
        refine q_when (b := true) h3 (et_eq (et_or (a := !(decide (1 ≤ headLen rd) && decide (headLen rd ≤ 24))) (b := !isRows p (headLen rd) rd) (et_eq (et_not (et_test (ev_chain ev_int (evd_var rfl) ev_int))) (by rw [e3, e4])) fun q5 => et_not (et_B (ev_call (ed_cons (evd_var rfl) (ed_cons (evd_var rfl) (ed_cons (evd_var rfl) ed_nil))) ⟨p, headLen rd, rd, ?_, rfl, rfl⟩))) ?_) (fun _ H4 h4 _ => kn _ rfl H4 h4.xw.same) fun q => nomatch q
        · simp at q5
          omega
        · rcases c with c | c
          · rw [c]; rfl
          · rw [c]; simp
      | @ok p R e G =>
        have l0 := G.L0
        have l1 := G.L1
        refine q_when (b := false) h3 (et_or (a := false) (b := false) (et_eq (et_not (et_test (ev_chain ev_int (evd_var rfl) ev_int))) (by rw [e3, e4, decide_eq_true l0, decide_eq_true l1]; rfl)) fun q5 => et_eq (et_not (et_B (ev_call (ed_cons (evd_var rfl) (ed_cons (evd_var rfl) (ed_cons (evd_var rfl) ed_nil))) ⟨p, headLen (rowsT R), rowsT R, by omega, rfl, rfl⟩))) (by rw [isRows_to G.R G.rl]; rfl)) (fun q => nomatch q) fun _ H4 h4 _ => ?_
        refine s_fin h4 (ev_makeLen (C := T.cBasis) T.cl_Basis T.no_Basis_rows (ed_cons (evd_var rfl) (ed_cons (evd_var rfl) ed_nil)) G) fun v H' a od => kq _ rfl v H' a ?_
        have I := basis_inv G.P G.R R.length (Nat.le_refl _)
        rw [I.lr, rank_same G.P G.R] at od
        exact od
/-! the law's own judge -/
def Gia (ds : List PyData) (d : PyData) : Prop := ∃ (p : Int) (T : List Int) (R : List (List Int)) (x : PyData), Res p T.length T ∧ Good p T.length R ∧ ds = [.int p, rowT T, rowsT R, x] ∧ d = .bool (ansB p T R x)
theorem pair_of {word : Str} {p : Int} {L : Nat} {x : PyData} (h : isPair word p L x = true) : ∃ v, x = .tuple [.str word, rowT v] ∧ Res p L v := by
  unfold isPair at h
  split at h
  · rw [Bool.and_eq_true, decide_eq_true_eq] at h
    obtain ⟨rfl, h⟩ := h
    obtain ⟨v, rfl, rv⟩ := isRow_of h
    exact ⟨v, rfl, rv⟩
  · cases h
theorem sum_ne : ¬ (("apart" : Str) = "sum") := by decide +kernel
theorem ansB_sum {p : Int} {T v : List Int} {R : List (List Int)} (rv : Res p R.length v) : ansB p T R (.tuple [.str "sum", rowT v]) = decide (mixL p T.length R v = T) := by
  show (if ("sum" : Str) = "sum" then sumOk p T R (rowT v) else if ("sum" : Str) = "apart" then apOk p T R (rowT v) else false) = _
  rw [if_pos rfl]
  unfold sumOk
  rw [isRow_to rv, vec_row, Bool.true_and]
theorem ansB_ap {p : Int} {T v : List Int} {R : List (List Int)} (rv : Res p T.length v) : ansB p T R (.tuple [.str "apart", rowT v]) = (decide (dotS T v % p = 1) && R.all fun r => decide (dotS r v % p = 0)) := by
  show (if ("apart" : Str) = "sum" then sumOk p T R (rowT v) else if ("apart" : Str) = "apart" then apOk p T R (rowT v) else false) = _
  rw [if_neg sum_ne, if_pos rfl]
  unfold apOk
  rw [isRow_to rv, vec_row, Bool.true_and]
theorem ansB_none {p : Int} {T : List Int} {R : List (List Int)} {x : PyData} (h1 : isPair "sum" p R.length x = false) (h2 : isPair "apart" p T.length x = false) : ansB p T R x = false := by
  unfold ansB
  split
  · rename_i s y
    by_cases c : s = "sum"
    · rw [if_pos c]
      have : isRow p R.length y = false := by simpa [isPair, c] using h1
      unfold sumOk
      rw [this]
      rfl
    · rw [if_neg c]
      by_cases c2 : s = "apart"
      · rw [if_pos c2]
        have : isRow p T.length y = false := by simpa [isPair, c2] using h2
        unfold apOk
        rw [this]
        rfl
      · rw [if_neg c2]
  · rfl
theorem ok_law_is_answer (T : Txt K mg) : FnOk P w K mg base CX0 4 T.a_law_is_answer T.d_law_is_answer ["p", "target", "rows", "thing"] (spP K Gia) := by
  refine pureOk T.F_law_is_answer sc_law_is_answer (by rintro _ _ ⟨_, _, _, _, _, _, rfl, _⟩; rfl) fun cdv A outer s H E hr => ⟨_, (pss_cons (ps_if (kval (kcall (ok_law_se_is_pair T) (hr.mono (by decide)) T.g__law_se_is_pair T.k__law_se_is_pair T.b__law_se_is_pair (kpa (kvc 3) (kpa pe_str (kpa (kvc 0) (kpa (kB (r := rLenQ K) call_len_seq T.n_len (kpa (kvl 2) pa_nil)) pa_nil)))))) (pss_one (ps_ret (pe_cmpR (r := rEqD K) (op_eqD hr.units) (kcall (ok_law_se_mixed T) (hr.mono (by decide)) T.g__law_se_mixed T.k__law_se_mixed T.b__law_se_mixed (kpa (kvc 0) (kpa (kB (r := rLenQ K) call_len_seq T.n_len (kpa (kvl 1) pa_nil)) (kpa (kvl 2) (kpa (pe_ix (r := rIxT K) ix_tup (kvc 3) pe_int (fun _ _ => rfl)) pa_nil))))) (kvl 1) (nomark _)))) pss_nil)
      (pss_cons (ps_if (PW.pt (pw_or (pt_not (kval (kcall (ok_law_se_is_pair T) (hr.mono (by decide)) T.g__law_se_is_pair T.k__law_se_is_pair T.b__law_se_is_pair (kpa (kvc 3) (kpa pe_str (kpa (kvc 0) (kpa (kB (r := rLenQ K) call_len_seq T.n_len (kpa (kvl 1) pa_nil)) pa_nil))))))) (pw_or1 (pt_cmpR op_ne (kcall (ok_law_se_dot T) (hr.mono (by decide)) T.g__law_se_dot T.k__law_se_dot T.b__law_se_dot (kpa (kvc 0) (kpa (kvl 1) (kpa (pe_ix (r := rIxT K) ix_tup (kvc 3) pe_int (fun _ _ => rfl)) pa_nil)))) pe_int (nomark _))))) (pss_one (ps_ret pe_bl)) pss_nil)
      (pss_one (ps_ret (pe_cmpR (r := rEqD K) (op_eqD hr.units) (pe_lc (own := [("row", 4)]) (g := (gName 4)) (by rfl) sc_law_is_answer.nd (show PI _ _ _ (iTup K _) from pi_tup (kvl 2)) (blkOk_by (by kernel_rfl)) (fun _ _ _ _ _ => (kgl 4 sc_law_is_answer.nd)) (fun _ _ _ _ _ => (pts_one (pt_cmpR op_ne (kcall (ok_law_se_dot T) (hr.mono (by decide)) T.g__law_se_dot T.k__law_se_dot T.b__law_se_dot (kpa (kvc 0) (kpa (kvl 4) (kpa (pe_ix (r := rIxT K) ix_tup (kvc 3) pe_int (fun _ _ => rfl)) pa_nil)))) pe_int (nomark _)))) (fun _ _ _ _ _ => pe_int)) (pe_lst pa_nil) (nomark _)))))), ?_⟩
  rintro _ _ ⟨p, TT, R, x, rT, G, rfl, rfl⟩ ms σ H Q h k
  have h : At K W0 ms ⟨H, H⟩ [.dat (.int p), .dat (rowT TT), .dat (rowsT R), .dat x, .emp] σ H := h
  have l0 := G.L0
  have l1 := G.L1
  have rl := G.rl
  have lo := G.P.lo
  have hi := G.P.hi
  refine q_when (b := isPair "sum" p R.length x) h (et_B (ev_call (ed_cons (evd_var rfl) (ed_cons ev_str (ed_cons (evd_var rfl) (ed_cons (evd_eq (ev_lenT (evd_var rfl)) (by rw [List.length_map])) ed_nil)))) ⟨"sum", p, R.length, x, by omega, rfl, rfl⟩)) (fun q H1 h1 _ => ?_) fun q H1 h1 _ => ?_
  · obtain ⟨v, rfl, rv⟩ := pair_of q
    rw [ansB_sum rv] at k
    refine s_fin h1 (evd_eq (ev_eqD (ev_call (ed_cons (evd_var rfl) (ed_cons (evd_eq (ev_lenT (evd_var rfl)) (by rw [List.length_map])) (ed_cons (evd_var rfl) (ed_cons (ev_ixT (evd_var rfl) ev_int rfl) ed_nil)))) ⟨p, TT.length, R, v, false, G, rv, rfl, rfl⟩) (evd_var rfl) ((shp_row _).shaped (by decide)) ((shp_row _).shaped (by decide))) (by rw [eqv_row])) k
  · refine q_when (b := !isPair "apart" p TT.length x || !decide (dotS TT (vecOf (second x)) % p = 1)) h1 (et_or (et_not (et_B (ev_call (ed_cons (evd_var rfl) (ed_cons ev_str (ed_cons (evd_var rfl) (ed_cons (evd_eq (ev_lenT (evd_var rfl)) (by rw [List.length_map])) ed_nil)))) ⟨"apart", p, TT.length, x, by omega, rfl, rfl⟩))) fun q2 => ?_) (fun q2 H2 h2 _ => ?_) fun q2 H2 h2 _ => ?_
    · obtain ⟨v, rfl, rv⟩ := pair_of (show isPair "apart" p TT.length x = true by simpa using q2)
      exact et_eq (et_test (ev_neI (ev_call (ed_cons (evd_var rfl) (ed_cons (evd_var rfl) (ed_cons (ev_ixT (evd_var rfl) ev_int rfl) ed_nil))) ⟨p, TT.length, TT, v, by omega, hi, by omega, rT, rv, rfl, rfl⟩) ev_int)) (by rw [show second (.tuple [.str "apart", rowT v]) = rowT v from rfl, vec_row])
    · have e : ansB p TT R x = false := by
        cases c : isPair "apart" p TT.length x with
        | false => exact ansB_none q c
        | true =>
          obtain ⟨v, rfl, rv⟩ := pair_of c
          rw [c, show second (.tuple [.str "apart", rowT v]) = rowT v from rfl, vec_row] at q2
          rw [ansB_ap rv, show decide (dotS TT v % p = 1) = false by simpa using q2]
          rfl
      rw [e] at k
      exact s_fin h2 ev_bl k
    · rw [Bool.or_eq_false_iff] at q2
      obtain ⟨v, rfl, rv⟩ := pair_of (show isPair "apart" p TT.length x = true by simpa using q2.1)
      have q3 := q2.2
      rw [show second (.tuple [.str "apart", rowT v]) = rowT v from rfl, vec_row] at q3
      rw [ansB_ap rv, show decide (dotS TT v % p = 1) = true by simpa using q3, Bool.true_and] at k
      refine s_fin h2 (evd_eq (ev_eqD (ev_lc1 (xs := R) (enc := rowT) (f := fun _ => .int 1) (p := fun r => !decide (dotS r v % p = 0)) (src_tup (evd_var rfl)) (by omega) (fun r hr => et_test (ev_neI (ev_call (ed_cons (evd_var rfl) (ed_cons (evd_var rfl) (ed_cons (ev_ixT (evd_var rfl) ev_int rfl) ed_nil))) ⟨p, TT.length, r, v, by omega, hi, by omega, G.R r hr, rv, rfl, rfl⟩) ev_int)) fun _ _ _ => ev_int) (ev_lst ed_nil (Nat.zero_le _)) ones_shaped nil_shaped) ?_) k
      have e : ∀ zs : List (List Int), PyData.eqv (.list (zs.map fun _ => PyData.int 1)) (.list []) = zs.isEmpty := fun zs => by cases zs <;> rfl
      rw [e]
      congr 1
      exact filter_none R fun r => decide (dotS r v % p = 0)
end
end Sc

/-! k60, 14: the law's ranks. -/
namespace Sc
open PySem L2 Fw La
open PyProof.Rows (envOfC)
section
variable {K : PySem.W.Frag} {W : Wd} {ms : List Addr} {B : Bs} {H H' : Hp} {ρ : List Sl} {σ σ' : L2.St} {l : Addr} {i j k : Nat} {ta tb te : TE} {tt : TT} {ts tz : TS} {D : Ends} {ds : List PyData} {d : PyData}
/-- while, by whatever stands at each turn -/
theorem s_whileI {α : Type} {I : α → L2.St → Hp → Prop} {μ : α → Nat} (p0 : α) (h0 : I p0 σ H)
    (step : ∀ p σ1 H1, I p σ1 H1 → ∀ Q : Bool → Hp → Prop, (∀ H2, ts { D with nx := fun σ' H' => ∃ p', μ p' < μ p ∧ I p' σ' H', ct := fun σ' H' => ∃ p', μ p' < μ p ∧ I p' σ' H', bk := D.nx } σ1 H2 → Q true H2) → (∀ H2, D.nx σ1 H2 → Q false H2) → tt σ1 H1 Q) : tWhile tt ts D σ H := by
  refine ⟨fun m σ' H' => ∃ p, m = μ p ∧ I p σ' H', ⟨_, p0, rfl, h0⟩, ?_⟩
  rintro m σ1 H1 ⟨p, rfl, a⟩
  exact step p σ1 H1 a _ (fun H2 q => iteT ⟨fun σ' H' => ∃ p', μ p' < μ p ∧ I p' σ' H', fun σ' H' ⟨p', hl, a'⟩ => ⟨_, hl, p', rfl, a'⟩, q⟩) fun H2 q => iteF q
theorem q_whileI {α : Type} {I : α → L2.St → Hp → Prop} {μ : α → Nat} (p0 : α) (h0 : I p0 σ H)
    (step : ∀ p σ1 H1, I p σ1 H1 → ∀ Q : Bool → Hp → Prop, (∀ H2, ts { D with nx := fun σ' H' => ∃ p', μ p' < μ p ∧ I p' σ' H', ct := fun σ' H' => ∃ p', μ p' < μ p ∧ I p' σ' H', bk := tz D } σ1 H2 → Q true H2) → (∀ H2, tz D σ1 H2 → Q false H2) → tt σ1 H1 Q) : tSeq (tWhile tt ts) tz D σ H := s_whileI (D := { D with nx := tz D }) p0 h0 step
/-- a, b = a new list, an int -/
theorem q_parFD {n : Int} (h : At K W ms B ρ σ H) (e1 : EvF K W ta ρ (· = ds)) (e2 : Evd K W tb ρ (.int n))
    (kk : ∀ l σ' H', At K W (l :: ms) B ((ρ.set j (.raw (.ref l))).set k (.dat (.int n))) σ' H' → Own K W (l :: ms) B l ds H' → l ∉ ms → B.hb l = none → tz D σ' H') : tSeq (tPar j k (tCons ta (tCons tb tNil))) tz D σ H :=
  e1 ms B σ H h _ fun es l vs H1 φ h1 x1 hl el o1 => e2 ms B σ H1 h1 _ fun v H2 h2 x2 o2 => by
    subst φ
    cases o2
    obtain ⟨l0, lm, lw⟩ := h.fresh hl
    have el2 := x2 l _ lw el
    have x12 := x1.trans x2
    refine ⟨_, _, rfl, kk l _ _ (((h.adopt x12 h2 hl el2).set (s := .raw (.ref l)) rfl j).set (s := .dat (.int n)) (.int n) k) ⟨List.mem_cons_self, lw, l0, vs, el2, ?_⟩ lm (h.freshB hl)⟩
    exact dpa_mono (x2.cut fun a z => List.mem_cons_of_mem _ (h.sub a z)) _ _ o1
/-- x = l.pop() -/
theorem q_pop0 (h : At K W ms B ρ σ H) (o : Own K W ms B l (ds ++ [d]) H) (hr : ρ[i]? = some (.raw (.ref l))) (kk : ∀ σ' H', At K W ms B (ρ.set j (.dat d)) σ' H' → Own K W ms B l ds H' → tz D σ' H') : tSeq (tAsg (tBM0 K "list" rPop (tVar i)) (gName j)) tz D σ H := by
  obtain ⟨w, ew, ow⟩ := h.env.get hr (by intro q; cases q)
  obtain rfl : w = .ref l := ow
  obtain ⟨vs, el, dd⟩ := o.val
  have lv := dpa_len dd
  rw [List.length_append, List.length_singleton] at lv
  have hx : vs[vs.length - 1]? = some vs[vs.length - 1] := List.getElem?_eq_getElem (by omega)
  obtain ⟨d', hd, od⟩ := dpa_get dd hx
  have e1 : vs.length - 1 = ds.length := by omega
  rw [e1, List.getElem?_append_right (Nat.le_refl _), Nat.sub_self] at hd
  cases hd
  refine ⟨_, ew, .inl ⟨rfl, _, .inl (.inl el)⟩, l, vs, _, rfl, rfl, el, hx, ?_⟩
  have b1 := h.write (o := .lst vs.dropLast) o.mem o.nws o.h0
  refine kk _ _ (b1.set (s := .dat d) (dp_mono (cut_put (.inl o.mem)) _ _ od) j) ⟨o.mem, o.nws, o.h0, vs.dropLast, upd_same, ?_⟩
  have e2 : ds = (ds ++ [d]).take ds.length := by rw [List.take_left]
  rw [e2, List.dropLast_eq_take, e1]
  exact dpa_mono (cut_put (.inl o.mem)) _ _ (dpa_take ds.length dd)
where
  dpa_take {H : Hp} : ∀ {ds : List PyData} {vs : List V} (n : Nat), DpAll K H vs ds → DpAll K H (vs.take n) (ds.take n)
    | [], _, n, h => by cases h; simp; exact .nil
    | d :: ds, _, 0, h => by cases h; exact .nil
    | d :: ds, _, n + 1, h => by cases h with | cons a t => exact .cons a (dpa_take n t)
end
theorem places_are {p : Int} {L : Nat} {v : List Int} (r : Res p L v) : ((List.range v.length).filter fun i => !decide (ga v i % p = 0))[0]? = firstP v := by
  rw [← List.head?_eq_getElem?, List.head?_filter]
  have zz : ∀ i, i < v.length → (ga v i % p = 0 ↔ ga v i = 0) := fun i hi => by
    have b := r.at (i := i) (by rw [← r.len]; exact hi)
    rw [Int.emod_eq_of_lt b.1 b.2]
  cases f : firstP v with
  | none =>
    rw [List.find?_eq_none]
    intro i hi
    rw [firstP_none f i]
    simp
  | some k =>
    obtain ⟨h1, h2, h3⟩ := firstP_some f
    rw [List.find?_range_eq_some]
    refine ⟨?_, List.mem_range.mpr h1, fun j hj => ?_⟩
    · rw [decide_eq_false (fun q => h2 ((zz k h1).mp q))]; rfl
    · rw [h3 j hj]; simp
theorem inv_at {p a : Int} (P : Prm p) (h0 : 0 < a) (h1 : a < p) : (((List.range p.toNat).filter fun i : Nat => decide ((i : Int) * a % p = 1)).map fun i : Nat => PyData.int (i : Int))[0]? = some (.int (invM p a)) := by
  obtain ⟨_, _, _, e⟩ := P.inv a h0 h1
  rw [List.getElem?_map, ← List.head?_eq_getElem?, List.head?_filter]
  rw [List.find?_map] at e
  have ef : ((fun b : Int => decide (a * b % p = 1)) ∘ fun b : Nat => (b : Int)) = fun i : Nat => decide ((i : Int) * a % p = 1) := by
    funext i
    show decide (a * (i : Int) % p = 1) = _
    rw [Int.mul_comm]
  rw [ef] at e
  cases q : List.find? (fun i : Nat => decide ((i : Int) * a % p = 1)) (List.range p.toNat) with
  | none => rw [q] at e; cases e
  | some j =>
    rw [q] at e
    have : (j : Int) = invM p a := Option.some.inj e
    show some (PyData.int (j : Int)) = _
    rw [this]
theorem lelim_res {p : Int} {L : Nat} {row o : List Int} {pl : Nat} (hp : 0 < p) (hr : row.length = L) (ho : o.length = L) : Res p L (lelim p row pl o) := by
  unfold lelim
  refine ⟨by rw [List.length_zipWith, hr, ho, Nat.min_self], fun x hx => ?_⟩
  obtain ⟨i, hi, rfl⟩ := List.getElem_of_mem hx
  rw [List.getElem_zipWith]
  exact ⟨Int.emod_nonneg _ (by omega), Int.emod_lt_of_pos _ hp⟩
theorem shp_nats (xs : List Nat) : SeqAt.shaped (.list (xs.map fun i : Nat => PyData.int (i : Int))) = true := (shp_list (n := 0) fun d hd => by
  obtain ⟨n, _, rfl⟩ := List.mem_map.mp hd
  exact shp_int n).shaped (by decide)
theorem nats_nil (xs : List Nat) : PyData.eqv (.list (xs.map fun i : Nat => PyData.int (i : Int))) (.list []) = xs.isEmpty := by
  cases xs <;> simp [PyData.eqv, PyData.eqvAll]
theorem lists_nil (xs : List (List Int)) : PyData.eqv (.list (xs.map rowL)) (.list []) = xs.isEmpty := by
  cases xs <;> simp [PyData.eqv, PyData.eqvAll]
theorem shp_lists (xs : List (List Int)) : SeqAt.shaped (.list (xs.map rowL)) = true := (shp_list (n := 1) fun d hd => by
  obtain ⟨n, _, rfl⟩ := List.mem_map.mp hd
  exact shp_ints n).shaped (by decide)
section
variable {P : Program} {w : World} {K : PySem.W.Frag} {mg : Str → Option Value} {base : Heap}
def Gsr (ds : List PyData) (d : PyData) : Prop := ∃ (p : Int) (L : Nat) (b : Bool) (R : List (List Int)), Prm p ∧ L ≤ 24 ∧ R.length ≤ 25 ∧ (∀ r ∈ R, Res p L r) ∧ ds = [.int p, sq b (R.map rowT)] ∧ d = .int (lrank p R : Int)
structure RkS where
  l : Addr
  hb : Hp
  left : List (List Int)
  found : Nat
theorem ok_law_se_rank (T : Txt K mg) : FnOk P w K mg base CX0 1 T.a_law_se_rank T.d_law_se_rank ["p", "rows"] (spP K Gsr) := by
  refine pureOk T.F_law_se_rank sc_law_se_rank (by rintro _ _ ⟨_, _, _, _, _, _, _, _, rfl, _⟩; rfl) fun cdv A outer s H E hr => ⟨_, (pss_cons (kpar (i := 2) (j := 3) (by rfl) sc_law_se_rank.nd (by decide) (kpa (pe_lc (own := [("row", 4)]) (g := (gName 4)) (tt := tYes) (by rfl) sc_law_se_rank.nd (show PI _ _ _ (iSeq K _) from pi_seq (kvl 1)) (blkOk_by (by kernel_rfl)) (fun _ _ _ _ _ => (kgl 4 sc_law_se_rank.nd)) (fun _ _ _ _ _ => pts_nil) (fun _ _ _ _ _ => (kTy (r := rLstOf K) call_list_of T.n_list (kpa (kvl 4) pa_nil)))) (kpa pe_int pa_nil)))
      (pss_cons (ps_while PassesOwn.never (pt_cmpR (r := rNeD K) (op_neD hr.units) (kvl 2) (pe_lst pa_nil) (nomark _)) (pss_cons (ksc 4 sc_law_se_rank.nd (show PE _ _ (tBM0 K "list" _ _) from kmeth0 (m := "") PySem.F.plainAttrs_list PySem.F.slot_list_pop PySem.F.type_list_pop mt_pop (kvl 2)))
      (pss_cons (ps_setLc (i := 5) (own := [("place", 6)]) (g := (gName 6)) (by rfl) sc_law_se_rank.nd (by kernel_rfl) (by kernel_rfl) kswap (krg1 T.n_range (kpa (kB (r := rLenQ K) call_len_seq T.n_len (kpa (kvc 4) pa_nil)) pa_nil)) (blkOk_by (by kernel_rfl)) (fun _ _ _ _ _ => (kgl 6 sc_law_se_rank.nd)) (fun _ _ _ _ _ => (pts_one (pt_cmpR op_ne (pe_op op_mod (pe_ix (r := rIxL K) ix_list (kvc 4) (kvl 6) (fun _ _ => rfl)) (kvc 0)) pe_int (nomark _)))) (fun _ _ _ _ _ => (kvl 6)))
      (pss_one (ps_if (pt_cmpR (r := rNeD K) (op_neD hr.units) (kvl 5) (pe_lst pa_nil) (nomark _)) (pss_cons (kasg (pe_tup (kpa (pe_op op_add (kvl 3) pe_int) (kpa (pe_ix (r := rIxL K) ix_list (kvl 5) pe_int (fun _ _ => rfl)) pa_nil))) (kgt (n := 2) (by rfl) (kgs (kgl 3 sc_law_se_rank.nd) (kgs (kgc 6 sc_law_se_rank.nd) pgs_nil))))
      (pss_cons (ksc 7 sc_law_se_rank.nd (pe_ix (r := rIxL K) ix_list (pe_lc (own := [("number", 8)]) (g := (gName 8)) (by rfl) sc_law_se_rank.nd (krg1 T.n_range (kpa (kvc 0) pa_nil)) (blkOk_by (by kernel_rfl)) (fun _ _ _ _ _ => (kgl 8 sc_law_se_rank.nd)) (fun _ _ _ _ _ => (pts_one (pt_cmpR op_eq (pe_op op_mod (pe_op op_mul (kvl 8) (pe_ix (r := rIxL K) ix_list (kvc 4) (kvc 6) (fun _ _ => rfl))) (kvc 0)) pe_int (nomark _)))) (fun _ _ _ _ _ => (kvl 8))) pe_int (fun _ _ => rfl)))
      (pss_one (ps_setLc (i := 2) (own := [("other", 11)]) (g := (gName 11)) (tt := tYes) (by rfl) sc_law_se_rank.nd (by kernel_rfl) (by kernel_rfl) kswap (show PI _ _ _ (iList K _) from pi_list (kvl 2)) (blkOk_by (by kernel_rfl)) (fun _ _ _ _ _ => (kgc 11 sc_law_se_rank.nd)) (fun _ _ _ _ _ => pts_nil) (fun _ _ _ _ _ => (pe_lc (own := [("one", 9), ("two", 10)]) (g := (gTup K 2 (gCons (gName 9) (gCons (gName 10) gNil)))) (tt := tYes) (by rfl) sc_law_se_rank.nd (show PI _ _ _ (RZ.iZipA K _) from kzip T.n_zip (kpa (kvc 11) (kpa (kvc 4) pa_nil))) (blkOk_by (by kernel_rfl)) (fun _ _ _ _ _ => (kgt (n := 2) (by rfl) (kgs (kgl 9 sc_law_se_rank.nd) (kgs (kgl 10 sc_law_se_rank.nd) pgs_nil)))) (fun _ _ _ _ _ => pts_nil) (fun _ _ _ _ _ => (pe_op op_mod (pe_op op_sub (kvl 9) (pe_op op_mul (pe_op op_mul (pe_ix (r := rIxL K) ix_list (kvc 11) (kvc 6) (fun _ _ => rfl)) (kvc 7)) (kvl 10))) (kvc 0))))))))) pss_nil)))))
      (pss_one (ps_ret (kvl 3))))), ?_⟩
  rintro _ _ ⟨p, L, b, R, Pp, hL, hR, rR, rfl, rfl⟩ ms σ H Q h kk
  have h : At K W0 ms ⟨H, H⟩ [.dat (.int p), .dat (sq b (R.map rowT)), .emp, .emp, .emp, .emp, .emp, .emp, .emp, .emp, .emp, .emp] σ H := h
  have lo := Pp.lo
  have hi := Pp.hi
  refine q_parFD (ds := R.map rowL) h (ef_lc0 (j := 4) (xs := R) (enc := rowT) (f := rowL) (src_seq (evd_var rfl)) (by omega) fun r _ => ev_lstT (evd_var rfl)) ev_int fun l0 σ1 H1 h1 o1 lm1 lb1 => ?_
  dsimp only [List.set] at h1
  refine q_whileI (α := RkS) (μ := fun q => q.left.length) (I := fun q σ' H' => At K W0 (q.l :: ms) ⟨H, q.hb⟩ [.dat (.int p), .dat (sq b (R.map rowT)), .raw (.ref q.l), .dat (.int (q.found : Int)), .emp, .emp, .emp, .emp, .emp, .emp, .emp, .emp] σ' H' ∧ Own K W0 (q.l :: ms) ⟨H, q.hb⟩ q.l (q.left.map rowL) H' ∧ q.l ∉ ms ∧ (∀ r ∈ q.left, Res p L r) ∧ q.left.length ≤ 25 ∧ q.found + lrk p q.left.length q.left = lrank p R)
    ⟨l0, H, R, 0⟩ ⟨h1, o1, lm1, rR, hR, Nat.zero_add _⟩ ?_
  rintro ⟨l, hb, left, found⟩ σ2 H2 ⟨h2, o2, lm, rl, ll, tot⟩ Q2 yes no
  dsimp only at h2 o2 lm rl ll tot yes no
  have lb : (Bs.off ⟨H, hb⟩ l).hb l = none := by show (if l = l then none else hb l) = none; rw [if_pos rfl]
  have hl := h2.off.lend ⟨o2.mem, o2.nws, o2.h0, o2.val⟩ lm lb (i := 2) rfl
  refine et_test (ev_neD (evd_var rfl) (ev_lst ed_nil (Nat.zero_le _)) (shp_lists left) nil_shaped) _ _ σ2 H2 hl Q2 fun H3 h3 x3 => ?_
  have h2 := h2.same x3.same
  have o2 := o2.same x3.same
  clear hl h3 x3
  rw [lists_nil]
  rcases (show left = [] ∨ ∃ i r, left = i ++ [r] from (List.eq_nil_or_concat left).imp id fun ⟨i, r, e⟩ => ⟨i, r, by rw [e, List.concat_eq_append]⟩) with rfl | ⟨init, row, rfl⟩
  · refine no H3 (s_fin h2 (evd_var rfl) fun v H' a od => kk v H' ⟨fun a z => (by cases z), fun x z => a.live x (List.mem_cons_of_mem _ z), .nil, trivial, a.xw, a.xw.cut fun a z => (by cases z), trivial⟩ ?_)
    rw [← tot]
    exact dp_mono cut_cons _ _ od
  have e0 : (init ++ [row]).isEmpty = false := by cases init <;> rfl
  rw [e0]
  refine yes H3 ?_
  have rrow : Res p L row := rl row (by simp)
  have rinit : ∀ r ∈ init, Res p L r := fun r hr => rl r (by simp [hr])
  have il : init.length ≤ 24 := by
    rw [List.length_append, List.length_singleton] at ll
    omega
  have es : lrk p (init ++ [row]).length (init ++ [row]) = match firstP row with
      | none => lrk p init.length init
      | some pl => lrk p init.length (init.map (lelim p row pl)) + 1 := by
    rw [List.length_append, List.length_singleton]
    have e : (init ++ [row])[init.length]?.getD [] = row := by
      rw [List.getElem?_append_right (Nat.le_refl _), Nat.sub_self]
      rfl
    show (match firstP ((init ++ [row])[init.length]?.getD []) with
      | none => lrk p init.length ((init ++ [row]).take init.length)
      | some pl => lrk p init.length (((init ++ [row]).take init.length).map (lelim p ((init ++ [row])[init.length]?.getD []) pl)) + 1) = _
    rw [e, List.take_left]
  rw [es] at tot
  rw [List.map_append] at o2
  refine q_pop0 (ds := init.map rowL) (d := rowL row) h2 o2 rfl fun σ4 H4 h4 o4 => ?_
  dsimp only [List.set] at h4
  have rlen := rrow.len
  refine q_asg h4 (ev_lc1 (j := 6) (xs := List.range row.length) (enc := fun i => .int (i : Nat)) (f := fun i => .int (i : Nat)) (p := fun i => !decide (ga row i % p = 0)) (by
      have sr := src_range (K := K) (W := W0) (ρ := [.dat (.int p), .dat (sq b (R.map rowT)), .raw (.ref l), .dat (.int (found : Int)), .dat (rowL row), .emp, .emp, .emp, .emp, .emp, .emp, .emp]) (n := (row.length : Int)) (ed_cons (evd_eq (ev_lenL (evd_var (i := 4) rfl)) (by rw [List.length_map])) ed_nil) (by omega) (by omega)
      rwa [Int.toNat_natCast] at sr) (by rw [List.length_range]; omega) (fun i hi => et_test (ev_neI (ev_mod (ev_ixL (evd_var rfl) (evd_var rfl) (atI_ga (List.mem_range.mp hi))) (evd_var rfl) (by omega)) ev_int)) fun i _ _ => evd_var rfl) fun σ5 H5 h5 x5 => ?_
  have o5 := o4.go h4.sub x5
  dsimp only [List.set] at h5
  have pa := places_are rrow
  generalize (List.range row.length).filter (fun i => !decide (ga row i % p = 0)) = pls at h5 pa
  refine s_if (b := !pls.isEmpty) h5 (et_eq (et_test (ev_neD (evd_var rfl) (ev_lst ed_nil (Nat.zero_le _)) (shp_nats pls) nil_shaped)) (by rw [nats_nil])) (fun q H6 h6 x6 => ?_) fun q H6 h6 x6 => ?_
  · have o6 := o5.go h5.sub x6
    cases pls with
    | nil => cases q
    | cons pl pls =>
      have fp : firstP row = some pl := pa.symm
      rw [fp] at tot
      dsimp only at tot
      obtain ⟨pk, pn, _⟩ := firstP_some fp
      rw [rlen] at pk
      have rb := rrow.at pk
      refine q_tgt h6 (ev_tup (ed_cons (ev_add (evd_var rfl) ev_int) (ed_cons (ev_ixL (evd_var rfl) ev_int atI_zero) ed_nil)) (by show 2 ≤ 100000; decide)) (tg_tup (tgs_cons tg_name (tgs_cons tg_name tgs_nil)) rfl) fun σ7 H7 h7 x7 => ?_
      have o7 := o6.go h6.sub x7
      dsimp only [List.set] at h7
      have e1 : (found : Int) + 1 = ((found + 1 : Nat) : Int) := by omega
      rw [e1] at h7
      refine q_asg h7 (ev_ixL (ev_lc1 (j := 8) (xs := List.range p.toNat) (enc := fun i => .int (i : Nat)) (f := fun i => .int (i : Nat)) (p := fun i : Nat => decide ((i : Int) * ga row pl % p = 1)) (src_range (ed_cons (evd_var rfl) ed_nil) (by omega) (by omega)) (by rw [List.length_range]; omega) (fun i hi => et_test (ev_eqI (ev_mod (ev_mul (evd_var rfl) (ev_ixL (evd_var rfl) (evd_var rfl) (atI_ga (by omega))) (.inr ⟨by omega, by omega⟩)) (evd_var rfl) (by omega)) ev_int)) fun i _ _ => evd_var rfl) ev_int (d := .int (invM p (ga row pl))) ?_) fun σ8 H8 h8 x8 => ?_
      · have e := inv_at Pp (show 0 < ga row pl by omega) rb.2
        have hl := (List.getElem?_eq_some_iff.mp e).1
        unfold atI
        rw [show (0 : Int) = ((0 : Nat) : Int) from rfl, ix_nat hl]
        exact e
      have o8 := o7.go h7.sub x8
      dsimp only [List.set] at h8
      have lb2 : (Bs.off ⟨H, hb⟩ l).hb l = none := lb
      have hl := h8.off.lend ⟨o8.mem, o8.nws, o8.h0, o8.val⟩ lm lb2 (i := 2) rfl
      dsimp only [List.set] at hl
      refine s_own hl (ef_lc0 (j := 11) (xs := init) (enc := rowL) (f := fun o => rowL (lelim p row pl o)) (src_list (evd_var rfl)) (by omega) fun o ho => ?_) fun l2 ds σ9 H9 φ h9 o9 lm9 lb9 => ?_
      · have ro := rinit o ho
        have rob := ro.at pk
        refine evd_eq (ev_lcN (xs := o.zip row) (enc := fun q => .tuple [.int q.1, .int q.2]) (f := fun q => .int ((q.1 - ga o pl * invM p (ga row pl) * q.2) % p)) (S := fun q => [.dat (.int p), .dat (sq b (R.map rowT)), .dat (.list (init.map rowL)), .dat (.int ((found + 1 : Nat) : Int)), .dat (rowL row), .dat (.list ((pl :: pls).map fun i : Nat => PyData.int (i : Int))), .dat (.int (pl : Int)), .dat (.int (invM p (ga row pl))), .emp, .dat (.int q.1), .dat (.int q.2), .dat (rowL o)])
          (zip_ints o row ▸ src_zipL (ed_cons (evd_var rfl) (ed_cons (evd_var rfl) ed_nil))) (by rw [List.length_zip]; omega) (fun q hq => ⟨[9, 10], tg_tup (tgs_cons tg_name (tgs_cons tg_name tgs_nil)) rfl, fun j z => z⟩) fun q hq => ?_) (e := rowL (lelim p row pl o)) ?_
        · have mq := List.of_mem_zip hq
          have b2 := rrow.bd q.2 mq.2
          exact ev_mod (ev_sub (evd_var rfl) (ev_mul (ev_mul (ev_ixL (evd_var rfl) (evd_var rfl) (atI_ga (by rw [ro.len]; exact pk))) (evd_var rfl) (.inl ⟨by omega, by omega⟩)) (evd_var rfl) (.inr ⟨by omega, by omega⟩))) (evd_var rfl) (by omega)
        · unfold rowL lelim
          rw [List.zip_eq_zipWith, List.map_zipWith, List.map_zipWith]
      · subst φ
        dsimp only [List.set] at h9
        rw [show (init.map fun o => rowL (lelim p row pl o)) = (init.map (lelim p row pl)).map rowL by rw [List.map_map]; rfl] at o9
        refine ⟨⟨l2, (Bs.off ⟨H, hb⟩ l).hb, init.map (lelim p row pl), found + 1⟩, ?_, h9.le (.same (.same (.same (.same (.emp (.emp (.emp (.emp (.emp (.emp (.emp (.emp .nil)))))))))))), o9, lm9, fun r hr => ?_, ?_, ?_⟩
        · show (init.map _).length < (init ++ [row]).length
          rw [List.length_map, List.length_append, List.length_singleton]
          omega
        · obtain ⟨o, ho, rfl⟩ := List.mem_map.mp hr
          exact lelim_res (by omega) rlen (rinit o ho).len
        · show (init.map _).length ≤ 25
          rw [List.length_map]
          omega
        · have tt : found + 1 + lrk p init.length (init.map (lelim p row pl)) = lrank p R := by
            have e2 : ∀ a b : Nat, a + 1 + b = a + (b + 1) := fun a b => by omega
            exact (e2 _ _).trans tot
          show found + 1 + lrk p (init.map (lelim p row pl)).length (init.map (lelim p row pl)) = _
          rw [List.length_map]
          exact tt
  · have o6 := o5.go h5.sub x6
    cases pls with
    | cons pl pls => cases q
    | nil =>
      have fp : firstP row = none := pa.symm
      rw [fp] at tot
      refine ⟨⟨l, hb, init, found⟩, ?_, h6.le (.same (.same (.same (.same (.emp (.emp (.emp (.emp (.emp (.emp (.emp (.emp .nil)))))))))))), o6, lm, rinit, by show init.length ≤ 25; omega, tot⟩
      show init.length < (init ++ [row]).length
      rw [List.length_append, List.length_singleton]
      omega
def Gis (ds : List PyData) (d : PyData) : Prop := ∃ (p : Int) (L : Nat) (R : List (List Int)) (x : List Int), Good p L R ∧ Res p L x ∧ ds = [.int p, rowT x, rowsT R] ∧ d = .bool (decide (lrank p (R ++ [x]) = lrank p R))
theorem ok_law_se_is_in (T : Txt K mg) : FnOk P w K mg base CX0 2 T.a_law_se_is_in T.d_law_se_is_in ["p", "target", "rows"] (spP K Gis) := by
  refine pureOk T.F_law_se_is_in sc_law_se_is_in (by rintro _ _ ⟨_, _, _, _, _, _, rfl, _⟩; rfl) fun cdv A outer s H E hr => ⟨_, (pss_one (ps_ret (pe_cmpR op_eq (kcall (ok_law_se_rank T) (hr.mono (by decide)) T.g__law_se_rank T.k__law_se_rank T.b__law_se_rank (kpa (kvl 0) (kpa (pe_op (r := rCatD K) op_catD (kTy (r := rLstOf K) call_list_of T.n_list (kpa (kvl 2) pa_nil)) (pe_lst (kpa (kvl 1) pa_nil))) pa_nil))) (kcall (ok_law_se_rank T) (hr.mono (by decide)) T.g__law_se_rank T.k__law_se_rank T.b__law_se_rank (kpa (kvl 0) (kpa (kvl 2) pa_nil))) (nomark _)))), ?_⟩
  rintro _ _ ⟨p, L, R, x, G, rx, rfl, rfl⟩ ms σ H Q h kk
  have rl := G.rl
  refine s_fin h (evd_eq (ev_eqI (i := (lrank p (R ++ [x]) : Int)) (j := (lrank p R : Int)) (ev_call (ed_cons (evd_var rfl) (ed_cons (ev_cat (ev_lstT (evd_var rfl)) (ev_lst (ed_cons (evd_var rfl) ed_nil) (by show 1 ≤ 100000; decide)) (by rw [List.length_map]; show _ + 1 ≤ _; omega)) ed_nil)) ⟨p, L, true, R ++ [x], G.P, G.L1, by rw [List.length_append, List.length_singleton]; omega, fun r hr => ?_, by rw [List.map_append]; rfl, rfl⟩) (ev_call (ed_cons (evd_var rfl) (ed_cons (evd_var rfl) ed_nil)) ⟨p, L, false, R, G.P, G.L1, by omega, G.R, rfl, rfl⟩)) (by rw [nat_eq])) kk
  rcases List.mem_append.mp hr with q | q
  · exact G.R r q
  · rw [List.mem_singleton.mp q]; exact rx
end
end Sc

/-! k60, 15: drawn rows and targets. -/
namespace Sc
open PySem L2 Fw La
open PyProof.Rows (envOfC)
section
variable {K : PySem.W.Frag} {W : Wd} {ρ : List Sl} {ta tb te : TE} {tA : TA}
/-- an item of one of several lists, at one of several places -/
theorem en_ixLN {Ψ1 : List PyData → Prop} {Ψ2 : Int → Prop} (ha : En K W ta ρ (IsD fun d => ∃ ds, d = .list ds ∧ Ψ1 ds)) (hb : En K W tb ρ (IsI Ψ2)) (h : ∀ ds n, Ψ1 ds → Ψ2 n → 0 ≤ n ∧ n < (ds.length : Int)) : En K W (tOp (rIxL K) ta tb) ρ (IsD fun d => ∃ ds, Ψ1 ds ∧ d ∈ ds) :=
  en_op (Φ1 := IsD fun d => ∃ ds, d = .list ds ∧ Ψ1 ds) (Φ2 := IsI Ψ2) ha hb fun s1 s2 ⟨d1, e1, ds, e3, p1⟩ ⟨n, e2, p⟩ => by
    subst e1 e2 e3
    have hn := h ds n p1 p
    obtain ⟨j, rfl⟩ : ∃ j : Nat, n = (j : Int) := ⟨n.toNat, by omega⟩
    have hj : j < ds.length := by omega
    have e : ds[j]? = some ds[j] := List.getElem?_eq_getElem hj
    refine ⟨.dat ds[j], ⟨_, rfl, ds, p1, List.getElem_mem hj⟩, rs_ixL ?_⟩
    unfold atI
    rw [ix_nat hj]
    exact e
theorem en_lstAll {P : PyData → Prop} {n : Nat} (h : EnD K W tA ρ fun ds => ds.length = n ∧ ∀ d ∈ ds, P d) (hn : n ≤ 100000) : En K W (tLst tA) ρ (IsD fun d => ∃ ds, d = .list ds ∧ (ds.length = n ∧ ∀ d ∈ ds, P d)) := en_lst h fun ds q => by rw [q.1]; exact hn
end
theorem nol_row (v : List Int) : noList (rowT v) = true := by
  show noLists (v.map PyData.int) = true
  exact noLists_of fun d hd => by
    obtain ⟨n, _, rfl⟩ := List.mem_map.mp hd
    rfl
theorem mod_res {p : Int} (hp : 0 < p) {α : Type} {xs : List α} {L : Nat} (hl : xs.length = L) (f : α → Int) : Res p L (xs.map fun x => f x % p) := ⟨by rw [List.length_map, hl], fun x hx => by
  obtain ⟨y, _, rfl⟩ := List.mem_map.mp hx
  exact ⟨Int.emod_nonneg _ (by omega), Int.emod_lt_of_pos _ hp⟩⟩
section
variable {P : Program} {w : World} {K : PySem.W.Frag} {mg : Str → Option Value} {base : Heap}
structure Goo (p : Int) (L : Nat) (R : List (List Int)) : Prop extends Good p L R
def Psr (ds : List PyData) : Prop := ∃ (p : Int) (L : Nat) (R : List (List Int)), Good p L R ∧ ds = [.int p, .int (L : Int), .list (R.map rowT)]
def Gsrw (ds : List PyData) (d : PyData) : Prop := ∃ (p : Int) (L : Nat) (R : List (List Int)) (v : List Int), ds = [.int p, .int (L : Int), .list (R.map rowT)] ∧ Res p L v ∧ d = rowT v
theorem ok_law_se_row (T : Txt K mg) : FnOk P w K mg base CX0 2 T.a_law_se_row T.d_law_se_row ["draw", "p", "length", "met"] (spD K Psr Gsrw) := by
  refine drawOkU T.F_law_se_row sc_law_se_row (by rintro _ ⟨_, _, _, _, rfl⟩; rfl) fun cdv A outer s H E hr => ⟨_, (pss_cons (ksc 4 sc_law_se_row.nd (kcall (ok_law_se_take T) (hr.mono (by decide)) T.g__law_se_take T.k__law_se_take T.b__law_se_take (kpa (kvc 0) (kpa pe_int pa_nil))))
      (pss_cons (ps_if (PW.pt (pw_and (pt_cmpR op_gt (kvc 4) pe_int (nomark _)) (pw_and1 (pt_cmpR (r := rNeD K) (op_neD hr.units) (kvl 3) (pe_lst pa_nil) (nomark _))))) (pss_cons (kpar (i := 5) (j := 6) (by rfl) sc_law_se_row.nd (by decide) (kpa (pe_ix (r := rIxL K) ix_list (kvl 3) (kcall (ok_law_se_take T) (hr.mono (by decide)) T.g__law_se_take T.k__law_se_take T.b__law_se_take (kpa (kvc 0) (kpa (kB (r := rLenQ K) call_len_seq T.n_len (kpa (kvl 3) pa_nil)) pa_nil))) (fun _ _ => rfl)) (kpa (pe_ix (r := rIxL K) ix_list (kvl 3) (kcall (ok_law_se_take T) (hr.mono (by decide)) T.g__law_se_take T.k__law_se_take T.b__law_se_take (kpa (kvc 0) (kpa (kB (r := rLenQ K) call_len_seq T.n_len (kpa (kvl 3) pa_nil)) pa_nil))) (fun _ _ => rfl)) pa_nil)))
      (pss_cons (ksc 7 sc_law_se_row.nd (pe_ix (r := rIxL K) ix_list (pe_lst (kpa pe_int (kpa (kcall (ok_law_se_take T) (hr.mono (by decide)) T.g__law_se_take T.k__law_se_take T.b__law_se_take (kpa (kvc 0) (kpa (kvc 1) pa_nil))) pa_nil))) (pe_op op_sub (kvc 4) pe_int) (fun _ _ => rfl)))
      (pss_one (ps_ret (kTy (r := rTupOf K) call_tuple_of T.n_tuple (kpa (pe_lc (own := [("first", 8), ("second", 9)]) (g := (gTup K 2 (gCons (gName 8) (gCons (gName 9) gNil)))) (tt := tYes) (by rfl) sc_law_se_row.nd (show PI _ _ _ (RZ.iZipA K _) from kzip T.n_zip (kpa (kvl 5) (kpa (kvl 6) pa_nil))) (blkOk_by (by kernel_rfl)) (fun _ _ _ _ _ => (kgt (n := 2) (by rfl) (kgs (kgl 8 sc_law_se_row.nd) (kgs (kgl 9 sc_law_se_row.nd) pgs_nil)))) (fun _ _ _ _ _ => pts_nil) (fun _ _ _ _ _ => (pe_op op_mod (pe_op op_add (pe_op op_mul (kvc 7) (kvl 8)) (pe_op op_mul (pe_op op_sub (kvc 4) pe_int) (kvl 9))) (kvc 1)))) pa_nil)))))) pss_nil)
      (pss_cons (ps_if (pt_cmpR op_eq (kvc 4) pe_int (nomark _)) (pss_one (ps_ret (pe_op (r := rRepA K) op_repA (pe_tup (kpa pe_int pa_nil)) (kvl 2)))) pss_nil)
      (pss_cons (ps_if (pt_cmpR op_eq (kvc 4) pe_int (nomark _)) (pss_one (ps_ret (pe_op (r := rCatA K) op_catA (pe_tup (kpa pe_int pa_nil)) (pe_op (r := rRepA K) op_repA (pe_tup (kpa pe_int pa_nil)) (pe_op op_sub (kvl 2) pe_int))))) pss_nil)
      (pss_cons (ksc 10 sc_law_se_row.nd (pe_ifExp (pt_cmpR op_lt (kvc 4) pe_int (nomark _)) (kvc 1) pe_int))
      (pss_one (ps_ret (kTy (r := rTupOf K) call_tuple_of T.n_tuple (kpa (pe_lc (own := [("place", 11)]) (g := (gName 11)) (tt := tYes) (by rfl) sc_law_se_row.nd (krg1 T.n_range (kpa (kvl 2) pa_nil)) (blkOk_by (by kernel_rfl)) (fun _ _ _ _ _ => (kgl 11 sc_law_se_row.nd)) (fun _ _ _ _ _ => pts_nil) (fun _ _ _ _ _ => (kcall (ok_law_se_take T) (hr.mono (by decide)) T.g__law_se_take T.k__law_se_take T.b__law_se_take (kpa (kvc 0) (kpa (kvc 10) pa_nil))))) pa_nil))))))))), ?_⟩
  rintro _ ⟨p, L, R, G, rfl⟩ A ms σ H Q h k
  have h : At K (SW K A) ms ⟨H, H⟩ [.raw (.ref A.d), .dat (.int p), .dat (.int (L : Int)), .dat (.list (R.map rowT)), .emp, .emp, .emp, .emp, .emp, .emp, .emp, .emp] σ H := h
  have lo := G.P.lo
  have hi := G.P.hi
  have l0 := G.L0
  have l1 := G.L1
  have rl := G.rl
  have k' : ∀ v u H', Res p L v → At K (SW K A) ms ⟨H, H⟩ [] [] H' → Dp K (cut ms H') u (rowT v) → Q u H' := fun v u H' rv a o => k _ u H' ⟨p, L, R, v, rfl, rv, rfl⟩ a o
  clear k
  refine q_asgN h (en_take rfl ev_int (by decide) (by decide)) fun s1 σ1 H1 p1 h1 => ?_
  obtain ⟨n, rfl, n0, n1⟩ := p1
  dsimp only [List.set] at h1
  have shR : SeqAt.shaped (.list (R.map rowT)) = true := (shp_list (n := 1) fun d hd => by
    obtain ⟨r, _, rfl⟩ := List.mem_map.mp hd
    exact shp_row r).shaped (by decide)
  have eqR : PyData.eqv (.list (R.map rowT)) (.list []) = R.isEmpty := by cases R <;> simp [PyData.eqv, PyData.eqvAll]
  refine q_when (b := decide (5 < n) && !R.isEmpty) h1 (et_and (et_test (ev_gt (evd_var rfl) ev_int)) fun _ => et_eq (et_test (ev_neD (evd_var rfl) (ev_lst ed_nil (Nat.zero_le _)) shR nil_shaped)) (by rw [eqR])) (fun q H2 h2 _ => ?_) fun q H2 h2 _ => ?_
  · have q1 : 5 < n ∧ R ≠ [] := by
      rw [Bool.and_eq_true, decide_eq_true_eq] at q
      exact ⟨q.1, fun z => by rw [z] at q; exact absurd q.2 (by simp)⟩
    have rp : 0 < R.length := List.length_pos_iff.mpr q1.2
    have pick : ∀ {E : XK}, En K (SW K A) (tOp (rIxL K) (tVar 3) (tCall (spD K Pt Gt) [] E (tCons (tVar 0) (tCons (tCB (rLenQ K) (tCons (tVar 3) tNil)) tNil)))) [.raw (.ref A.d), .dat (.int p), .dat (.int (L : Int)), .dat (.list (R.map rowT)), .dat (.int n), .emp, .emp, .emp, .emp, .emp, .emp, .emp] (IsD fun d => ∃ v, Res p L v ∧ d = rowT v) := fun {E} =>
      (en_ixL (evd_var rfl) (en_take (m := (R.length : Int)) rfl (evd_eq (ev_lenL (evd_var rfl)) (by rw [List.length_map])) (by omega) (by omega)) fun n q => by rw [List.length_map]; exact q).isd fun d hd => by
        obtain ⟨r, hr, rfl⟩ := List.mem_map.mp hd
        exact ⟨r, G.R r hr, rfl⟩
    refine q_parN h2 pick pick fun s1 s2 σ3 H3 p1 p2 h3 => ?_
    obtain ⟨_, rfl, a, ra, rfl⟩ := p1
    obtain ⟨_, rfl, b, rb, rfl⟩ := p2
    dsimp only [List.set] at h3
    refine q_asgN h3 (en_ixLN (Ψ2 := fun m => 0 ≤ m ∧ m < 2) (en_lstAll (P := fun d => ∃ z : Int, d = .int z ∧ 0 ≤ z ∧ z < p) (end_all1 (isd_evd ev_int ⟨1, rfl, by omega, by omega⟩) (end_all1 (isd_of (en_take rfl (evd_var rfl) (by omega) (by omega)) fun z q => ⟨z, rfl, q⟩) end_all0)) (by decide)) (en_evi (ev_sub (evd_var rfl) ev_int) ⟨by omega, by omega⟩) fun ds m q1 q2 => by rw [q1.1]; exact q2) fun s4 σ4 H4 p4 h4 => ?_
    obtain ⟨_, rfl, ds, q4, hm⟩ := p4
    obtain ⟨t, rfl, t0, t1⟩ := q4.2 _ hm
    dsimp only [List.set] at h4
    have la := ra.len
    refine s_fin h4 (evd_eq (ev_tupL (ev_lcN (xs := a.zip b) (enc := fun q => .tuple [.int q.1, .int q.2]) (f := fun q => .int ((t * q.1 + (n - 6) * q.2) % p)) (S := fun q => [.raw (.ref A.d), .dat (.int p), .dat (.int (L : Int)), .dat (.list (R.map rowT)), .dat (.int n), .dat (rowT a), .dat (rowT b), .dat (.int t), .dat (.int q.1), .dat (.int q.2), .emp, .emp])
      (zip_ints a b ▸ src_zipT (ed_cons (evd_var rfl) (ed_cons (evd_var rfl) ed_nil))) (by rw [List.length_zip]; omega) (fun q hq => ⟨[8, 9], tg_tup (tgs_cons tg_name (tgs_cons tg_name tgs_nil)) rfl, fun j z => z⟩) fun q hq => ?_)) (e := rowT ((a.zip b).map fun q => (t * q.1 + (n - 6) * q.2) % p)) (by unfold rowT; rw [List.map_map]; rfl)) fun v H' a' o => k' _ v H' (mod_res (by omega) (by rw [List.length_zip, la, rb.len, Nat.min_self]) _) a' o
    exact ev_mod (ev_add (ev_mul (evd_var rfl) (evd_var rfl) (.inl ⟨by omega, by omega⟩)) (ev_mul (ev_sub (evd_var rfl) ev_int) (evd_var rfl) (.inl ⟨by omega, by omega⟩))) (evd_var rfl) (by omega)
  · refine q_when h2 (et_test (ev_eqI (evd_var rfl) ev_int)) (fun q H3 h3 _ => ?_) fun q H3 h3 _ => ?_
    · refine s_fin h3 (evd_eq (ev_repT (n := L) (ev_tup (ed_cons ev_int ed_nil) (by show 1 ≤ 100000; decide)) (evd_var rfl) (by omega)) (e := rowT (List.replicate L 0)) (by unfold rowT; rw [List.map_replicate])) fun v H' a o => k' _ v H' ⟨by simp, fun x hx => by rw [List.eq_of_mem_replicate hx]; omega⟩ a o
    refine q_when h3 (et_test (ev_eqI (evd_var rfl) ev_int)) (fun q H4 h4 _ => ?_) fun q H4 h4 _ => ?_
    · refine s_fin h4 (evd_eq (ev_catT (ev_tup (ed_cons ev_int ed_nil) (by show 1 ≤ 100000; decide)) (ev_repT (n := L - 1) (ev_tup (ed_cons ev_int ed_nil) (by show 1 ≤ 100000; decide)) (evd_eq (ev_sub (evd_var rfl) ev_int) (by congr 1; omega)) (by omega)) (by rw [List.length_replicate]; show 1 + (L - 1) ≤ _; omega)) (e := rowT (1 :: List.replicate (L - 1) 0)) (by unfold rowT; rw [List.map_cons, List.map_replicate]; rfl)) fun v H' a o => k' _ v H' ⟨by rw [List.length_cons, List.length_replicate]; omega, fun x hx => ?_⟩ a o
      rcases List.mem_cons.mp hx with q | q
      · omega
      · rw [List.eq_of_mem_replicate q]; omega
    refine q_asg h4 (ev_if (s := .dat (.int (if n < 2 then p else 2))) (et_test (ev_lt (evd_var rfl) ev_int)) (fun q => by rw [if_pos (of_decide_eq_true q)]; exact evd_var rfl) fun q => by rw [if_neg (of_decide_eq_false q)]; exact ev_int) fun σ5 H5 h5 _ => ?_
    dsimp only [List.set] at h5
    have sz : 0 < (if n < 2 then p else 2) ∧ (if n < 2 then p else 2) ≤ p := by split <;> omega
    generalize (if n < 2 then p else 2) = z at h5 sz
    refine s_retN h5 (en_tupL (Ψ := fun ds => ∃ v, Res p L v ∧ ds = v.map .int) ((en_lc (xs := List.range L) (enc := fun i => PyData.int (i : Nat)) (p := fun _ => true) (Φ := fun _ d => ∃ y : Int, d = .int y ∧ 0 ≤ y ∧ y < z) (S := fun i => [.raw (.ref A.d), .dat (.int p), .dat (.int (L : Int)), .dat (.list (R.map rowT)), .dat (.int n), .emp, .emp, .emp, .emp, .emp, .dat (.int z), .dat (.int (i : Nat))]) (by
        have sr := src_range (K := K) (W := SW K A) (ρ := [.raw (.ref A.d), .dat (.int p), .dat (.int (L : Int)), .dat (.list (R.map rowT)), .dat (.int n), .emp, .emp, .emp, .emp, .emp, .dat (.int z), .emp]) (n := (L : Int)) (ed_cons (evd_var (i := 2) rfl) ed_nil) (by omega) (by omega)
        rwa [Int.toNat_natCast] at sr) (by rw [List.length_range]; omega) (fun x _ => ⟨[11], tg_name, by decide⟩) (fun _ _ => et_yes) fun x _ _ => (en_take rfl (evd_var rfl) (by omega) (by omega)).imp fun s ⟨y, e, b⟩ => ⟨_, e, y, rfl, b⟩).imp fun s ⟨es, e, pr⟩ => ⟨_, e, es, rfl, ?_⟩)) fun s v H' p' a o => ?_
    · rw [List.filter_eq_self.mpr fun _ _ => rfl] at pr
      obtain ⟨v, e, bv⟩ := ints_of pr
      have lv := paired_len pr
      rw [List.length_range, e, List.length_map] at lv
      exact ⟨v, ⟨lv.symm, fun x hx => ⟨(bv x hx).1, by have := (bv x hx).2; omega⟩⟩, e⟩
    · obtain ⟨d, rfl, ds, rfl, v', rv, rfl⟩ := p'
      exact k' v' v H' rv a o
where
  paired_len {α : Type} {Φ : α → PyData → Prop} : ∀ {xs : List α} {es : List PyData}, Paired Φ xs es → xs.length = es.length
    | _, _, .nil => rfl
    | _, _, .cons _ t => by rw [List.length_cons, List.length_cons, paired_len t]
  ints_of {α : Type} {z : Int} : ∀ {xs : List α} {es : List PyData}, Paired (fun _ d => ∃ y : Int, d = .int y ∧ 0 ≤ y ∧ y < z) xs es → ∃ v : List Int, es = v.map .int ∧ ∀ x ∈ v, 0 ≤ x ∧ x < z
    | _, _, .nil => ⟨[], rfl, fun x h => nomatch h⟩
    | _, _, .cons ⟨y, e, b⟩ t => by
      obtain ⟨v, ev, bv⟩ := ints_of t
      exact ⟨y :: v, by rw [e, ev]; rfl, fun x hx => (List.mem_cons.mp hx).elim (fun q => q ▸ b) (bv x)⟩
end
end Sc

/-! k60, 16: drawn rows, targets. -/
namespace Sc
open PySem L2 Fw La
open PyProof.Rows (envOfC)
section
variable {K : PySem.W.Frag} {W : Wd} {ms : List Addr} {B : Bs} {H H' : Hp} {ρ : List Sl} {σ : L2.St} {ta tb te : TE} {tA : TA} {D : Ends} {ts ts' tz : TS} {wi : TI} {g : TG}
theorem q_forN {α : Type} {Ψ : List PyData → Prop} {R S : Nat → α → List Sl} {X : Nat → α → Hp → Prop} (p0 : α) (h : At K W ms B ρ σ H) (sr : SrcN K W wi ρ Ψ) (l0 : Le (R 0 p0) ρ) (x0 : ∀ H1, At K W ms B ρ σ H1 → XW W.ws H H1 → X 0 p0 H1)
    (tg : ∀ ds, Ψ ds → ∀ i p d, ds[i]? = some d → ∃ js, Tg K W g js d (R i p) (S i p))
    (hs : ∀ ds, Ψ ds → ∀ Hb i p d σ' H', ds[i]? = some d → At K W ms ⟨B.h0, Hb⟩ (S i p) σ' H' → X i p H' → ts { D with nx := fun σ H => ∃ p', At K W ms ⟨B.h0, Hb⟩ (R (i + 1) p') σ H ∧ X (i + 1) p' H, ct := fun σ H => ∃ p', At K W ms ⟨B.h0, Hb⟩ (R (i + 1) p') σ H ∧ X (i + 1) p' H, bk := tz D } σ' H')
    (hd : ∀ ds, Ψ ds → ∀ p σ' H', At K W ms B (R ds.length p) σ' H' → X ds.length p H' → tz D σ' H') (xs : ∀ i p H H', Same H H' → Live ms H → X i p H → X i p H') : tSeq (tFor wi g ts) tz D σ H :=
  s_forN (D := { D with nx := tz D }) p0 h sr l0 x0 tg hs hd xs
theorem en_callP {G : List PyData → PyData → Prop} {Ψ : List PyData → Prop} {P : PyData → Prop} {E : XK} (h : EnD K W tA ρ Ψ) (hg : ∀ ds, Ψ ds → ∃ d, G ds d ∧ P d) : En K W (tCall (spP K G) [] E tA) ρ (IsD P) := fun ms B σ H a Q q => h ms B σ H a _ fun ds vs H1 ψ h1 x1 o1 => by
  show spP K G (vs ++ []) H1 Q E
  rw [List.append_nil]
  obtain ⟨d, g, p⟩ := hg ds ψ
  exact ⟨ms, ds, d, h1.live, o1, g, fun v H2 s2 o2 => q (.dat d) v H2 ⟨d, rfl, p⟩ (h1.same s2) (x1.trans (.of_same s2)) o2⟩
end
section
variable {P : Program} {w : World} {K : PySem.W.Frag} {mg : Str → Option Value} {base : Heap}
def Prw (ds : List PyData) : Prop := ∃ (p : Int) (L : Nat), Good p L [] ∧ ds = [.int p, .int (L : Int)]
def Grws (ds : List PyData) (d : PyData) : Prop := ∃ (p : Int) (L : Nat) (R : List (List Int)), ds = [.int p, .int (L : Int)] ∧ Good p L R ∧ d = rowsT R
theorem ok_law_rows (T : Txt K mg) : FnOk P w K mg base CX0 3 T.a_law_rows T.d_law_rows ["draw", "p", "length"] (spD K Prw Grws) := by
  refine drawOkU T.F_law_rows sc_law_rows (by rintro _ ⟨_, _, _, rfl⟩; rfl) fun cdv A outer s H E hr => ⟨_, (pss_cons (ksl 3 sc_law_rows.nd (pe_lst pa_nil))
      (pss_cons (ps_for PassesOwn.never rfl (krg1 T.n_range (kpa (pe_ix (r := rIxL K) ix_list (pe_lst (kpa (kcall (ok_law_se_take T) (hr.mono (by decide)) T.g__law_se_take T.k__law_se_take T.b__law_se_take (kpa (kvl 0) (kpa pe_int pa_nil))) (kpa (kcall (ok_law_se_take T) (hr.mono (by decide)) T.g__law_se_take T.k__law_se_take T.b__law_se_take (kpa (kvl 0) (kpa pe_int pa_nil))) (kpa pe_int pa_nil)))) (kcall (ok_law_se_take T) (hr.mono (by decide)) T.g__law_se_take T.k__law_se_take T.b__law_se_take (kpa (kvl 0) (kpa pe_int pa_nil))) (fun _ _ => rfl)) pa_nil)) (kgl 4 sc_law_rows.nd) (pss_one (kexpr (show PE _ _ (tBM K "list" _ _ _) from kmeth PySem.F.plainAttrs_list PySem.F.slot_list_append PySem.F.type_list_append mt_append (kvl 3) (kpa (kcall (ok_law_se_row T) (hr.mono (by decide)) T.g__law_se_row T.k__law_se_row T.b__law_se_row (kpa (kvl 0) (kpa (kvl 1) (kpa (kvl 2) (kpa (kvl 3) pa_nil))))) pa_nil)))))
      (pss_one (ps_ret (kTy (r := rTupOf K) call_tuple_of T.n_tuple (kpa (kvl 3) pa_nil)))))), ?_⟩
  rintro _ ⟨p, L, G, rfl⟩ A ms σ H Q h k
  have h : At K (SW K A) ms ⟨H, H⟩ [.raw (.ref A.d), .dat (.int p), .dat (.int (L : Int)), .emp, .emp] σ H := h
  refine q_own' h (ef_lst ed_nil (by decide)) fun l ds σ1 H1 e1 h1 o1 lm lb => ?_
  subst e1
  dsimp only [List.set] at h1
  refine q_forN (α := List (List Int)) (R := fun i R => [.raw (.ref A.d), .dat (.int p), .dat (.int (L : Int)), .raw (.ref l), .emp]) (S := fun i R => [.raw (.ref A.d), .dat (.int p), .dat (.int (L : Int)), .raw (.ref l), .dat (.int (i : Nat))])
    (X := fun i R H' => R.length = i ∧ (∀ r ∈ R, Res p L r) ∧ Own K (SW K A) (l :: ms) ⟨H, H⟩ l (R.map rowT) H') [] h1
    (srcN_range (Ψ := fun n => 0 ≤ n ∧ n ≤ 24) (isi_of (en_ixLN (Ψ2 := fun m => 0 ≤ m ∧ m < 3) (en_lstAll (P := fun d => ∃ z : Int, d = .int z ∧ 0 ≤ z ∧ z ≤ 24) (end_all1 (isd_of (en_take rfl ev_int (by decide) (by decide)) fun z q => ⟨z, rfl, by omega, by omega⟩) (end_all1 (isd_of (en_take rfl ev_int (by decide) (by decide)) fun z q => ⟨z, rfl, by omega, by omega⟩) (end_all1 (isd_evd ev_int ⟨24, rfl, by decide, by decide⟩) end_all0))) (by decide)) (en_take rfl ev_int (by decide) (by decide)) fun ds m q1 q2 => by rw [q1.1]; exact q2) fun d ⟨ds, q, m⟩ => q.2 d m) fun n q => ⟨by omega, by omega⟩)
    (Le.refl _) (fun H3 h3 x3 => ⟨rfl, by simp, o1.go h1.sub x3⟩) (fun ds ψ i R d hd => ⟨[4], ?_⟩) (fun ds ψ Hb i R d σ3 H3 hd h3 x3 => ?_) (fun ds ψ R σ3 H3 h3 x3 => ?_) (fun i R H H' s _ x => ⟨x.1, x.2.1, x.2.2.same s⟩)
  · obtain ⟨n, _, rfl⟩ := ψ
    obtain ⟨e, _⟩ := rangeD_get hd
    rw [e]
    exact tg_name
  · obtain ⟨n, nb, rfl⟩ := ψ
    obtain ⟨_, il⟩ := rangeD_get hd
    obtain ⟨pl, pb, po⟩ := x3
    refine s_appL (Ψ := fun d => ∃ v, Res p L v ∧ d = rowT v) h3 (po.re Hb) lm rfl (by rw [List.length_map]; omega) ((en_callU rfl (end_of (ed_cons (evd_var rfl) (ed_cons (evd_var rfl) (ed_cons (evd_var rfl) ed_nil))) (Ψ := (· = [.int p, .int (L : Int), .list (R.map rowT)])) rfl) fun ds q => ⟨p, L, R, ⟨G.P, G.L0, G.L1, by omega, pb⟩, q⟩).isd fun d ⟨ds, q, p', L', R', v, e, rv, ed⟩ => ?_) fun d H4 q h4 o4 => ?_
    · rw [show ds = _ from q] at e
      simp only [List.cons.injEq, PyData.int.injEq, and_true] at e
      obtain ⟨e1, e2, _⟩ := e
      have e2 : L = L' := by omega
      subst e1 e2 ed
      exact ⟨nol_row v, v, rv, rfl⟩
    · obtain ⟨v, rv, rfl⟩ := q
      refine ⟨R ++ [v], h4.le (.same (.same (.same (.same (.emp .nil))))), by rw [List.length_append, pl]; rfl, fun c hc => ?_, ?_⟩
      · rcases List.mem_append.mp hc with q | q
        · exact pb c q
        · rw [List.mem_singleton.mp q]; exact rv
      · rw [List.map_append]
        exact o4.un
  · obtain ⟨n, nb, rfl⟩ := ψ
    obtain ⟨pl, pb, po⟩ := x3
    have h4 := h3.lend po lm lb (i := 3) rfl
    have el : R.length ≤ 24 := by rw [pl, rangeD_len]; omega
    exact s_fin h4 (ev_tupL (evd_var rfl)) fun v H' a o => k _ v H' ⟨p, L, R, rfl, ⟨G.P, G.L0, G.L1, el, pb⟩, rfl⟩ a o
def Ptg (ds : List PyData) : Prop := ∃ (p : Int) (L : Nat) (R : List (List Int)), Good p L R ∧ ds = [.int p, .int (L : Int), rowsT R]
def Gtg (ds : List PyData) (d : PyData) : Prop := ∃ (p : Int) (L : Nat) (R : List (List Int)) (v : List Int), ds = [.int p, .int (L : Int), rowsT R] ∧ Res p L v ∧ d = rowT v
theorem ok_law_target (T : Txt K mg) : FnOk P w K mg base CX0 3 T.a_law_target T.d_law_target ["draw", "p", "length", "rows"] (spD K Ptg Gtg) := by
  refine drawOkU T.F_law_target sc_law_target (by rintro _ ⟨_, _, _, _, rfl⟩; rfl) fun cdv A outer s H E hr => ⟨_, (pss_cons (ksl 4 sc_law_target.nd (kcall (ok_law_se_take T) (hr.mono (by decide)) T.g__law_se_take T.k__law_se_take T.b__law_se_take (kpa (kvc 0) (kpa pe_int pa_nil))))
      (pss_cons (ps_if (pt_cmpR op_eq (kvl 4) pe_int (nomark _)) (pss_one (ps_ret (kcall (ok_law_se_row T) (hr.mono (by decide)) T.g__law_se_row T.k__law_se_row T.b__law_se_row (kpa (kvc 0) (kpa (kvc 1) (kpa (kvl 2) (kpa (pe_lst pa_nil) pa_nil))))))) pss_nil)
      (pss_cons (ksl 5 sc_law_target.nd (kcall (ok_law_se_mixed T) (hr.mono (by decide)) T.g__law_se_mixed T.k__law_se_mixed T.b__law_se_mixed (kpa (kvc 1) (kpa (kvl 2) (kpa (kvl 3) (kpa (pe_lc (own := [("row", 6)]) (g := (gName 6)) (tt := tYes) (by rfl) sc_law_target.nd (show PI _ _ _ (iTup K _) from pi_tup (kvl 3)) (blkOk_by (by kernel_rfl)) (fun _ _ _ _ _ => (kgl 6 sc_law_target.nd)) (fun _ _ _ _ _ => pts_nil) (fun _ _ _ _ _ => (kcall (ok_law_se_take T) (hr.mono (by decide)) T.g__law_se_take T.k__law_se_take T.b__law_se_take (kpa (kvc 0) (kpa (kvc 1) pa_nil))))) pa_nil))))))
      (pss_cons (ps_if (pt_cmpR op_eq (kvl 4) pe_int (nomark _)) (pss_cons (ksl 7 sc_law_target.nd (kcall (ok_law_se_take T) (hr.mono (by decide)) T.g__law_se_take T.k__law_se_take T.b__law_se_take (kpa (kvc 0) (kpa (kvl 2) pa_nil))))
      (pss_one (ksl 5 sc_law_target.nd (pe_op (r := rCatA K) op_catA (pe_op (r := rCatA K) op_catA (pe_slice (r := rSlA K) sl_tupA (kvl 5) po_none (po_some (kvl 7))) (pe_tup (kpa (pe_op op_mod (pe_op op_add (pe_op op_add (pe_ix (r := rIxT K) ix_tup (kvl 5) (kvl 7) (fun _ _ => rfl)) pe_int) (kcall (ok_law_se_take T) (hr.mono (by decide)) T.g__law_se_take T.k__law_se_take T.b__law_se_take (kpa (kvc 0) (kpa (pe_op op_sub (kvc 1) pe_int) pa_nil)))) (kvc 1)) pa_nil))) (pe_slice (r := rSlA K) sl_tupA (kvl 5) (po_some (pe_op op_add (kvl 7) pe_int)) po_none))))) pss_nil)
      (pss_one (ps_ret (kvl 5))))))), ?_⟩
  rintro _ ⟨p, L, R, G, rfl⟩ A ms σ H Q h k
  have h : At K (SW K A) ms ⟨H, H⟩ [.raw (.ref A.d), .dat (.int p), .dat (.int (L : Int)), .dat (rowsT R), .emp, .emp, .emp, .emp] σ H := h
  have lo := G.P.lo
  have hi := G.P.hi
  have l0 := G.L0
  have l1 := G.L1
  have rl := G.rl
  have k' : ∀ v u H', Res p L v → At K (SW K A) ms ⟨H, H⟩ [] [] H' → Dp K (cut ms H') u (rowT v) → Q u H' := fun v u H' rv a o => k _ u H' ⟨p, L, R, v, rfl, rv, rfl⟩ a o
  clear k
  refine q_asgN h (en_take rfl ev_int (by decide) (by decide)) fun s1 σ1 H1 p1 h1 => ?_
  obtain ⟨n, rfl, n0, n1⟩ := p1
  dsimp only [List.set] at h1
  refine q_when h1 (et_test (ev_eqI (evd_var rfl) ev_int)) (fun q H2 h2 _ => ?_) fun q H2 h2 _ => ?_
  · refine s_retN h2 ((en_callU rfl (end_of (ed_cons (evd_var rfl) (ed_cons (evd_var rfl) (ed_cons (ev_lst ed_nil (Nat.zero_le _)) ed_nil))) (Ψ := (· = [.int p, .int (L : Int), .list []])) rfl) fun ds q => ⟨p, L, [], ⟨G.P, G.L0, G.L1, Nat.zero_le _, fun r h => nomatch h⟩, q⟩).isd (P' := fun d => ∃ v, Res p L v ∧ d = rowT v) fun d ⟨ds, q, p', L', R', v, e, rv, ed⟩ => ?_) fun s v H' p' a o => ?_
    · rw [show ds = _ from q] at e
      simp only [List.cons.injEq, PyData.int.injEq, and_true] at e
      obtain ⟨e1, e2, _⟩ := e
      have e2 : L = L' := by omega
      subst e1 e2 ed
      exact ⟨v, rv, rfl⟩
    · obtain ⟨d, rfl, v', rv, rfl⟩ := p'
      exact k' v' v H' rv a o
  refine q_asgN h2 (en_callP (P := fun d => ∃ v, Res p L v ∧ d = rowT v) (end_cons (Ψ1 := (· = .int p)) (isd_evd (evd_var rfl) rfl) (end_cons (Ψ1 := (· = .int (L : Int))) (isd_evd (evd_var rfl) rfl) (end_cons (Ψ1 := (· = rowsT R)) (isd_evd (evd_var rfl) rfl) (end_one (P := fun d => ∃ c, Res p R.length c ∧ d = .list (c.map .int))
    ((en_lc (xs := R) (enc := rowT) (p := fun _ => true) (Φ := fun _ d => ∃ y : Int, d = .int y ∧ 0 ≤ y ∧ y < p) (S := fun r => [.raw (.ref A.d), .dat (.int p), .dat (.int (L : Int)), .dat (rowsT R), .dat (.int n), .emp, .dat (rowT r), .emp]) (src_tup (evd_var rfl)) (by omega) (fun x _ => ⟨[6], tg_name, by decide⟩) (fun _ _ => et_yes) fun x _ _ => (en_take rfl (evd_var rfl) (by omega) (by omega)).imp fun s ⟨y, e, b⟩ => ⟨_, e, y, rfl, b⟩).imp fun s ⟨es, e, pr⟩ => ⟨_, e, ?_⟩))))) fun ds ⟨d1, es1, e1, q1, d2, es2, e2, q2, d3, es3, e3, q3, d4, e4, c, rc, q4⟩ => ?_) fun s3 σ3 H3 p3 h3 => ?_
  · rw [List.filter_eq_self.mpr fun _ _ => rfl] at pr
    obtain ⟨v, e, bv⟩ := ok_law_se_row.ints_of pr
    have lv := ok_law_se_row.paired_len pr
    rw [e, List.length_map] at lv
    exact ⟨v, ⟨lv.symm, bv⟩, by rw [e]⟩
  · subst e1 e2 e3 e4 q1 q2 q3 q4
    exact ⟨rowT (mixL p L R c), ⟨p, L, R, c, true, G, rc, rfl, rfl⟩, _, mix_res (by omega) rc.len, rfl⟩
  · obtain ⟨_, rfl, v, rv, rfl⟩ := p3
    dsimp only [List.set] at h3
    refine q_when h3 (et_test (ev_eqI (evd_var rfl) ev_int)) (fun q H4 h4 _ => ?_) fun q H4 h4 _ => s_fin h4 (evd_var rfl) fun u H' a o => k' v u H' rv a o
    refine q_asgN h4 (en_take rfl (evd_var rfl) (by omega) (by omega)) fun s5 σ5 H5 p5 h5 => ?_
    obtain ⟨m, rfl, m0, m1⟩ := p5
    obtain ⟨j, rfl⟩ : ∃ j : Nat, m = (j : Int) := ⟨m.toNat, by omega⟩
    have hj : j < L := by omega
    dsimp only [List.set] at h5
    refine s_asgN (D := _) h5 (Φ := IsD fun d => ∃ v', Res p L v' ∧ d = rowT v') (en_op (Φ1 := IsD fun d => ∃ z : Int, 0 ≤ z ∧ z < p ∧ d = rowT (v.take j ++ [z])) (Φ2 := (· = .dat (rowT (v.drop (j + 1)))))
      (en_op (Φ1 := (· = .dat (rowT (v.take j)))) (Φ2 := IsD fun d => ∃ ds, d = .tuple ds ∧ ∃ z : Int, ds = [.int z] ∧ 0 ≤ z ∧ z < p) (en_of_ev (evd_eq (ev_tillT (j := j) (evd_var rfl) (evd_var rfl)) (by unfold rowT; rw [List.map_take])) rfl)
        (en_tup ((end_one (P := fun d => ∃ z : Int, d = .int z ∧ 0 ≤ z ∧ z < p) (isd_of (Ψ := fun z => 0 ≤ z ∧ z < p) (en_I (Ψ1 := fun _ => True) (Ψ2 := (· = p)) (en_I0 (Ψ1 := fun _ => True) (Ψ2 := fun _ => True) (en_evi (ev_add (ev_ixT (evd_var rfl) (evd_var rfl) (atI_ga (by rw [rv.len]; exact hj))) ev_int) trivial) ((en_take (m := p - 1) rfl (ev_sub (evd_var rfl) ev_int) (by omega) (by omega)).imp fun s ⟨z, e, _⟩ => ⟨z, e, trivial⟩) fun _ _ _ _ => trivial) (en_evi (evd_var rfl) rfl) (fun i j _ e => by rw [show j = p from e]; omega) fun i j _ e => by rw [show j = p from e]; exact ⟨Int.emod_nonneg _ (by omega), Int.emod_lt_of_pos _ (by omega)⟩) fun z q => ⟨z, rfl, q⟩)).imp fun ds ⟨d, e, z, e2, b⟩ => ⟨z, by rw [e, e2], b⟩) fun ds ⟨z, e, _⟩ => by rw [e]; show 1 ≤ 100000; decide) fun s1 s2 e1 ⟨d, e2, ds, e3, z, e4, z0, z1⟩ => ?_)
      (en_of_ev (evd_eq (ev_fromT (j := j + 1) (evd_var rfl) (evd_eq (ev_add (evd_var rfl) ev_int) (by congr 1))) (by unfold rowT; rw [List.map_drop])) rfl) fun s1 s2 ⟨d, e1, z, z0, z1, e3⟩ e2 => ?_) fun s6 σ6 H6 p6 h6 => ?_
    · subst e1 e2 e3 e4
      refine ⟨.dat (.tuple ((v.take j).map .int ++ [.int z])), ⟨_, rfl, z, z0, z1, by unfold rowT; rw [List.map_append]; rfl⟩, rs_catT (by rw [List.length_map, List.length_take]; show _ + 1 ≤ _; have := rv.len; omega)⟩
    · subst e1 e2 e3
      have lv := rv.len
      refine ⟨.dat (.tuple ((v.take j ++ [z]).map .int ++ (v.drop (j + 1)).map .int)), ⟨_, rfl, v.take j ++ [z] ++ v.drop (j + 1), ⟨?_, fun x hx => ?_⟩, by unfold rowT; rw [← List.map_append]⟩, rs_catT (by rw [List.length_map, List.length_map, List.length_append, List.length_take, List.length_drop, List.length_singleton]; omega)⟩
      · rw [List.length_append, List.length_append, List.length_take, List.length_drop, List.length_singleton]
        omega
      · rcases List.mem_append.mp hx with q | q
        · rcases List.mem_append.mp q with q | q
          · exact rv.bd x (List.mem_of_mem_take q)
          · rw [List.mem_singleton.mp q]; exact ⟨z0, z1⟩
        · exact rv.bd x (List.mem_of_mem_drop q)
    · obtain ⟨_, rfl, v', rv', rfl⟩ := p6
      dsimp only [List.set] at h6
      exact s_fin h6 (evd_var rfl) fun u H' a o => k' v' u H' rv' a o
/-! bent answers -/
theorem ef_listT {W : Wd} {ρ : List Sl} {te : TE} {ds : List PyData} (h : Evd K W te ρ (.tuple ds)) : EvF K W (tCB (rLstOf K) (tCons te tNil)) ρ (· = ds) := fun ms B σ H g Q q => h ms B σ H g _ fun v H1 g1 x1 o1 => by
  cases o1 with
  | tup hs ha =>
    refine ⟨_, _, rfl, .inr (sqt_mono cut_le hs), fun p hp => ?_⟩
    have hw := (g1.fresh hp).2.2
    have hp0 : H p = none := by
      cases q : H p with
      | none => rfl
      | some o => rw [x1 p o hw q] at hp; cases hp
    exact q _ p _ _ rfl (g1.same (same_put hp)) (x1.trans (.of_same (same_put hp))) hp0 upd_same (dpa_mono ((cut_new hp).trans cut_drop) _ _ ha)
theorem q_whenL {W : Wd} {ms : List Addr} {B : Bs} {H : Hp} {ρ : List Sl} {σ : L2.St} {l : Addr} {i : Nat} {ds : List PyData} {tt : TT} {D : Ends} {ts tz : TS} {Ψ : Bool → Prop} (h : At K W (l :: ms) B ρ σ H) (o : Own K W (l :: ms) B l ds H) (hm : l ∉ ms) (hr : ρ[i]? = some (.raw (.ref l))) (e : EnT K W tt (ρ.set i (.dat (.list ds))) Ψ)
    (k1 : Ψ true → ∀ H', At K W (l :: ms) B ρ σ H' → Own K W (l :: ms) B l ds H' → ts { D with nx := tz D } σ H') (k2 : Ψ false → ∀ H', At K W (l :: ms) B ρ σ H' → Own K W (l :: ms) B l ds H' → tz D σ H') : tSeq (tIfS tt ts tNext) tz D σ H := by
  obtain ⟨vs, el, dd⟩ := o.val
  refine e ms (B.off l) σ H (h.off.lend ⟨o.mem, o.nws, o.h0, o.val⟩ hm (by show (if l = l then none else B.hb l) = none; rw [if_pos rfl]) hr) _ fun b H1 ψ h1 x1 => ?_
  have e1 := x1 l _ o.nws el
  have g1 : At K W (l :: ms) B ρ σ H1 := h.go x1 (fun a z => (List.mem_cons.mp z).elim (fun q => by rw [q]; exact ⟨_, e1⟩) (h1.live a)) h1.p
  cases b with
  | true => exact iteT (k1 ψ H1 g1 (o.go h.sub x1))
  | false => exact iteF (k2 ψ H1 g1 (o.go h.sub x1))
theorem q_asgL {W : Wd} {ms : List Addr} {B : Bs} {H : Hp} {ρ : List Sl} {σ : L2.St} {l : Addr} {i j : Nat} {ds : List PyData} {te : TE} {D : Ends} {tz : TS} {Ψ : PyData → Prop} (h : At K W (l :: ms) B ρ σ H) (o : Own K W (l :: ms) B l ds H) (hm : l ∉ ms) (hr : ρ[i]? = some (.raw (.ref l))) (e : En K W te (ρ.set i (.dat (.list ds))) (IsD fun d => noList d = true ∧ Ψ d))
    (k : ∀ d σ' H', Ψ d → At K W (l :: ms) B (ρ.set j (.dat d)) σ' H' → Own K W (l :: ms) B l ds H' → tz D σ' H') : tSeq (tAsg te (gName j)) tz D σ H :=
  run_lend (Q := fun v H1 => gName j v σ H1 fun σ' H' => tz D σ' H') h o hm hr e fun d v H1 ψ a x o1 od => k d _ H1 ψ (a.set (s := .dat d) od j) o1
theorem dom_row (v : List Int) : Dom (rowT v) := by
  by_cases h : v.length = 2
  · match v, h with
    | [a, b], _ => exact .int a (.int b)
  · exact .len (by rw [List.length_map]; exact h)
def Pbe (ds : List PyData) : Prop := ∃ (p : Int) (s : Str) (v : List Int) (ws : List Str), Prm p ∧ v.length ≤ 24 ∧ ws ≠ [] ∧ ws.length ≤ 10 ∧ ds = [.int p, .tuple [.str s, rowT v], .list (ws.map .str)]
theorem ok_law_se_bent (T : Txt K mg) : FnOk P w K mg base CX0 2 T.a_law_se_bent T.d_law_se_bent ["draw", "p", "pair", "words"] (spD K Pbe fun _ d => Dom d) := by
  refine drawOkU T.F_law_se_bent sc_law_se_bent (by rintro _ ⟨_, _, _, _, _, _, _, _, rfl⟩; rfl) fun cdv A outer s H E hr => ⟨_, (pss_cons (kpar (i := 4) (j := 5) (by rfl) sc_law_se_bent.nd (by decide) (kpa (kcall (ok_law_se_take T) (hr.mono (by decide)) T.g__law_se_take T.k__law_se_take T.b__law_se_take (kpa (kvl 0) (kpa pe_int pa_nil))) (kpa (kTy (r := rLstOf K) call_list_of T.n_list (kpa (pe_ix (r := rIxT K) ix_tup (kvl 2) pe_int (fun _ _ => rfl)) pa_nil)) pa_nil)))
      (pss_cons (ps_if (PW.pt (pw_and (pt_cmpR op_lt (kvl 4) pe_int (nomark _)) (pw_and1 (pt_cmpR (r := rNeD K) (op_neD hr.units) (kvl 5) (pe_lst pa_nil) (nomark _))))) (pss_cons (ksl 6 sc_law_se_bent.nd (kcall (ok_law_se_take T) (hr.mono (by decide)) T.g__law_se_take T.k__law_se_take T.b__law_se_take (kpa (kvl 0) (kpa (kB (r := rLenQ K) call_len_seq T.n_len (kpa (kvl 5) pa_nil)) pa_nil))))
      (pss_cons (kasg (pe_ix (r := rIxL K) ix_list (pe_lst (kpa (kcall (ok_law_se_take T) (hr.mono (by decide)) T.g__law_se_take T.k__law_se_take T.b__law_se_take (kpa (kvl 0) (kpa (kvl 1) pa_nil))) (kpa (pe_op op_mod (pe_op op_add (pe_ix (r := rIxL K) ix_list (kvl 5) (kvl 6) (fun _ _ => rfl)) pe_int) (kvl 1)) (kpa (pe_op op_add (pe_ix (r := rIxL K) ix_list (kvl 5) (kvl 6) (fun _ _ => rfl)) (kvl 1)) (kpa (pe_op op_sub (pe_ix (r := rIxL K) ix_list (kvl 5) (kvl 6) (fun _ _ => rfl)) (kvl 1)) (kpa pe_bl pa_nil)))))) (kvl 4) (fun _ _ => rfl)) (pg_sub (kvl 5) (kvl 6) set_list))
      (pss_one (ps_ret (pe_tup (kpa (pe_ix (r := rIxT K) ix_tup (kvl 2) pe_int (fun _ _ => rfl)) (kpa (kTy (r := rTupOf K) call_tuple_of T.n_tuple (kpa (kvl 5) pa_nil)) pa_nil))))))) pss_nil)
      (pss_cons (ksl 7 sc_law_se_bent.nd (pe_lst (kpa (pe_tup (kpa (pe_ix (r := rIxT K) ix_tup (kvl 2) pe_int (fun _ _ => rfl)) (kpa (kTy (r := rLstOf K) call_list_of T.n_list (kpa (kvl 5) pa_nil)) pa_nil))) (kpa (pe_tup (kpa (pe_ix (r := rIxT K) ix_tup (kvl 2) pe_int (fun _ _ => rfl)) (kpa (pe_op (r := rCatA K) op_catA (kTy (r := rTupOf K) call_tuple_of T.n_tuple (kpa (kvl 5) pa_nil)) (pe_tup (kpa pe_int pa_nil))) pa_nil))) (kpa (pe_tup (kpa (pe_ix (r := rIxT K) ix_tup (kvl 2) pe_int (fun _ _ => rfl)) (kpa (pe_slice (r := rSlA K) sl_tupA (kTy (r := rTupOf K) call_tuple_of T.n_tuple (kpa (kvl 5) pa_nil)) (po_some pe_int) po_none) pa_nil))) (kpa (kTy (r := rTupOf K) call_tuple_of T.n_tuple (kpa (kvl 5) pa_nil)) (kpa pe_non pa_nil)))))))
      (pss_cons (ksl 7 sc_law_se_bent.nd (pe_op (r := rCatD K) op_catD (kvl 7) (pe_lst (kpa (pe_tup (kpa (pe_ix (r := rIxL K) ix_list (kvl 3) (kcall (ok_law_se_take T) (hr.mono (by decide)) T.g__law_se_take T.k__law_se_take T.b__law_se_take (kpa (kvl 0) (kpa (kB (r := rLenQ K) call_len_seq T.n_len (kpa (kvl 3) pa_nil)) pa_nil))) (fun _ _ => rfl)) (kpa (pe_ix (r := rIxT K) ix_tup (kvl 2) pe_int (fun _ _ => rfl)) pa_nil))) (kpa (pe_lst (kpa (pe_ix (r := rIxT K) ix_tup (kvl 2) pe_int (fun _ _ => rfl)) (kpa (pe_ix (r := rIxT K) ix_tup (kvl 2) pe_int (fun _ _ => rfl)) pa_nil))) (kpa (pe_op (r := rCatA K) op_catA (kvl 2) (pe_tup (kpa pe_int pa_nil))) (kpa (pe_tup (kpa (pe_ix (r := rIxT K) ix_tup (kvl 2) pe_int (fun _ _ => rfl)) (kpa pe_non pa_nil))) pa_nil)))))))
      (pss_one (ps_ret (pe_ix (r := rIxL K) ix_list (kvl 7) (kcall (ok_law_se_take T) (hr.mono (by decide)) T.g__law_se_take T.k__law_se_take T.b__law_se_take (kpa (kvl 0) (kpa (kB (r := rLenQ K) call_len_seq T.n_len (kpa (kvl 7) pa_nil)) pa_nil))) (fun _ _ => rfl)))))))), ?_⟩
  rintro _ ⟨p, s, v, ws, Pp, lv, wn, wl, rfl⟩ A ms σ H Q h k
  have h : At K (SW K A) ms ⟨H, H⟩ [.raw (.ref A.d), .dat (.int p), .dat (.tuple [.str s, rowT v]), .dat (.list (ws.map .str)), .emp, .emp, .emp, .emp] σ H := h
  have lo := Pp.lo
  have hi := Pp.hi
  refine q_parNF (Φ1 := IsI fun n => 0 ≤ n ∧ n < 10) (Ψ := (· = v.map .int)) h ((en_take rfl ev_int (by decide) (by decide)).imp fun s q => ⟨q, by obtain ⟨n, e, _⟩ := q; exact ⟨n, e⟩⟩) (ef_listT (ev_ixT (evd_var rfl) ev_int rfl)) fun s1 l ds σ1 H1 p1 e1 h1 o1 lm lb => ?_
  obtain ⟨n, rfl, n0, n1⟩ := p1
  subst e1
  dsimp only [List.set] at h1
  have eqv0 : PyData.eqv (.list (v.map .int)) (.list []) = v.isEmpty := by cases v <;> simp [PyData.eqv, PyData.eqvAll]
  refine q_whenL (i := 5) (Ψ := fun b => b = (decide (n < 5) && !v.isEmpty)) h1 o1 lm rfl (ent_of (et_and (et_test (ev_lt (evd_var rfl) ev_int)) fun _ => et_eq (et_test (ev_neD (evd_var rfl) (ev_lst ed_nil (Nat.zero_le _)) ((shp_ints v).shaped (by decide)) nil_shaped)) (by rw [eqv0])) rfl) (fun q H2 h2 o2 => ?_) fun q H2 h2 o2 => ?_
  · have q1 : n < 5 ∧ 0 < v.length := by
      have q := q.symm
      rw [Bool.and_eq_true, decide_eq_true_eq] at q
      refine ⟨q.1, ?_⟩
      cases v with
      | nil => exact absurd q.2 (by simp)
      | cons _ _ => simp
    refine q_asgL (i := 5) (Ψ := fun d => ∃ j : Nat, d = .int (j : Int) ∧ j < v.length) h2 o2 lm rfl ((en_take (m := (v.length : Int)) rfl (evd_eq (ev_lenL (evd_var rfl)) (by rw [List.length_map])) (by omega) (by omega)).imp fun s ⟨m, e, b⟩ => ⟨_, e, rfl, m.toNat, by congr 1; omega, by omega⟩) fun d σ3 H3 p3 h3 o3 => ?_
    obtain ⟨j, rfl, hj⟩ := p3
    dsimp only [List.set] at h3
    refine q_setL (i := 5) (m := j) (Ψ := fun _ => True) h3 o3 lm rfl ((en_ixLN (Ψ2 := fun m => 0 ≤ m ∧ m < 5) (en_lstAll (P := fun d => noList d = true) (end_all1 (isd_of (en_take rfl (evd_var rfl) (by omega) (by omega)) fun z q => rfl) (end_all1 (isd_evd (ev_mod (ev_add (ev_ixL (evd_var rfl) (evd_var rfl) (atI_ga hj)) ev_int) (evd_var rfl) (by omega)) rfl) (end_all1 (isd_evd (ev_add (ev_ixL (evd_var rfl) (evd_var rfl) (atI_ga hj)) (evd_var rfl)) rfl) (end_all1 (isd_evd (ev_sub (ev_ixL (evd_var rfl) (evd_var rfl) (atI_ga hj)) (evd_var rfl)) rfl) (end_all1 (isd_evd ev_bl rfl) end_all0))))) (by decide)) (en_evi (evd_var rfl) ⟨n0, q1.1⟩) fun ds m q1 q2 => by rw [q1.1]; exact q2).isd fun d ⟨ds, q, m⟩ => ⟨q.2 d m, trivial⟩) (evd_var rfl) (by rw [List.length_map]; exact hj) fun d H4 _ h4 o4 => ?_
    have h5 := h4.lend o4 lm lb (i := 5) rfl
    dsimp only [List.set] at h5
    exact s_fin h5 (ev_tup (ed_cons (ev_ixT (evd_var rfl) ev_int rfl) (ed_cons (ev_tupL (evd_var rfl)) ed_nil)) (by show 2 ≤ 100000; decide)) fun v H' a o => k _ v H' (.str _ _) a o
  · have h3 := h2.lend o2 lm lb (i := 5) rfl
    dsimp only [List.set] at h3
    have tr : ∀ {ρ : List Sl}, ρ[5]? = some (.dat (.list (v.map .int))) → Evd K (SW K A) (tCB (rTupOf K) (tCons (tVar 5) tNil)) ρ (rowT v) := fun e => ev_tupL (evd_var e)
    have p0 : ∀ {ρ : List Sl}, ρ[2]? = some (.dat (.tuple [.str s, rowT v])) → Evd K (SW K A) (tOp (rIxT K) (tVar 2) (tC (.int 0))) ρ (.str s) := fun e => ev_ixT (evd_var e) ev_int rfl
    have p1 : ∀ {ρ : List Sl}, ρ[2]? = some (.dat (.tuple [.str s, rowT v])) → Evd K (SW K A) (tOp (rIxT K) (tVar 2) (tC (.int 1))) ρ (rowT v) := fun e => ev_ixT (evd_var e) ev_int rfl
    have len2 : ∀ a b : PyData, [a, b].length ≤ 100000 := fun a b => by show 2 ≤ 100000; decide
    refine q_asgN h3 (Φ := IsD fun d => ∃ ds, d = .list ds ∧ (ds.length = 5 ∧ ∀ d ∈ ds, Dom d)) (en_lstAll (end_all1 (isd_evd (ev_tup (ed_cons (p0 rfl) (ed_cons (ev_of_ef (ef_list (evd_var rfl))) ed_nil)) (len2 _ _)) (.str _ _)) (end_all1 (isd_evd (ev_tup (ed_cons (p0 rfl) (ed_cons (ev_catT (tr rfl) (ev_tup (ed_cons ev_int ed_nil) (by show 1 ≤ 100000; decide)) (by rw [List.length_map]; show _ + 1 ≤ _; omega)) ed_nil)) (len2 _ _)) (.str _ _)) (end_all1 (isd_evd (ev_tup (ed_cons (p0 rfl) (ed_cons (ev_fromT (j := 1) (tr rfl) ev_int) ed_nil)) (len2 _ _)) (.str _ _)) (end_all1 (isd_evd (tr rfl) (dom_row v)) (end_all1 (isd_evd ev_non (.no rfl)) end_all0))))) (by decide)) fun s4 σ4 H4 p4 h4 => ?_
    obtain ⟨_, rfl, ds, rfl, dl, dd⟩ := p4
    dsimp only [List.set] at h4
    refine q_asgN h4 (Φ := IsD fun d => ∃ ds, d = .list ds ∧ (ds.length = 9 ∧ ∀ d ∈ ds, Dom d)) (en_op (Φ1 := (· = .dat (.list ds))) (Φ2 := IsD fun d => ∃ es, d = .list es ∧ (es.length = 4 ∧ ∀ d ∈ es, Dom d)) (en_of_ev (evd_var rfl) rfl) (en_lstAll (end_all1 (en_tup ((end_cons (Ψ1 := fun d => ∃ x : Str, d = .str x) ((en_ixL (evd_var rfl) (en_take (m := (ws.length : Int)) rfl (evd_eq (ev_lenL (evd_var rfl)) (by rw [List.length_map])) (by have := List.length_pos_iff.mpr wn; omega) (by omega)) fun n q => by rw [List.length_map]; exact q).isd fun d hd => by
        obtain ⟨x, _, rfl⟩ := List.mem_map.mp hd
        exact ⟨x, rfl⟩) (end_of (ed_cons (p1 rfl) ed_nil) (Ψ := (· = [rowT v])) rfl)).imp (Ψ' := fun ds => ∃ x : Str, ds = [.str x, rowT v]) fun ds ⟨d, es, e, ⟨x, e2⟩, e3⟩ => ⟨x, by rw [e, e2, e3]⟩) (fun ds ⟨x, e⟩ => by rw [e]; exact len2 _ _) |>.isd fun d ⟨ds, e, x, e2⟩ => by rw [e, e2]; exact .str _ _)
      (end_all1 (isd_evd (ev_lst (ed_cons (p0 rfl) (ed_cons (p1 rfl) ed_nil)) (len2 _ _)) (.no rfl)) (end_all1 (isd_evd (ev_catT (evd_var rfl) (ev_tup (ed_cons ev_int ed_nil) (by show 1 ≤ 100000; decide)) (by show 2 + 1 ≤ 100000; decide)) (.len (by simp))) (end_all1 (isd_evd (ev_tup (ed_cons (p0 rfl) (ed_cons ev_non ed_nil)) (len2 _ _)) (.str _ _)) end_all0)))) (by decide)) fun s1 s2 e1 ⟨d, e2, es, e3, el, ed⟩ => ?_) fun s5 σ5 H5 p5 h5 => ?_
    · subst e1 e2 e3
      refine ⟨.dat (.list (ds ++ es)), ⟨_, rfl, ds ++ es, rfl, by rw [List.length_append, dl, el], fun x hx => (List.mem_append.mp hx).elim (dd x) (ed x)⟩, fun ms H x y lv hx hy Q q => ?_⟩
      cases hx with
      | lst sx dx => cases hy with
        | lst sy dy => exact ⟨_, _, _, _, rfl, rfl, sql_mono cut_le sx, sql_mono cut_le sy, by rw [dpa_len dx, dpa_len dy, dl, el]; decide, fun p hp => q _ _ (same_put hp) (Sl.new_lst lv hp (dpa_app dx dy))⟩
    · obtain ⟨_, rfl, es, rfl, el, ed⟩ := p5
      dsimp only [List.set] at h5
      refine s_retN h5 (en_ixL (evd_var rfl) (en_take (m := 9) rfl (evd_eq (ev_lenL (evd_var rfl)) (by rw [el]; rfl)) (by decide) (by decide)) fun n q => by rw [el]; exact q) fun s v H' p' a o => ?_
      obtain ⟨d, rfl, hd⟩ := p'
      exact k d v H' (ed d hd) a o
end
end Sc

/-! k60, 17: the marks of errors. -/
namespace Sc
open PySem L2 Fw La
open PyProof.Rows (envOfC)
theorem EnvOk.len {K : PySem.W.Frag} {H : Hp} : ∀ {ρ : List Sl} {σ : L2.St}, EnvOk K H ρ σ → σ.length = ρ.length
  | _, _, .nil => rfl
  | _, _, .cons _ t => by rw [List.length_cons, List.length_cons, EnvOk.len t]
section
variable {K : PySem.W.Frag} {mg : Str → Option Value}
theorem kit_none {C : Addr} (i : PySem.W.isClsIn K C = true) (t : PySem.W.typeIn K (.ref C) = some (.type "type")) : PySem.W.kitOne K (.type "NoneType") (.ref C) = some false := by
  unfold PySem.W.kitOne
  rw [if_neg (show ¬ ((Value.type "NoneType" == Value.ref C) = true) from Bool.false_ne_true)]
  show (if ((PySem.W.clsIn K C).isSome && PySem.W.typeIn K (.ref C) == some (.type "type")) = true then PySem.W.subIn K (.type "NoneType") (.ref C) else none) = some false
  have i' : (PySem.W.clsIn K C).isSome = true := i
  rw [if_pos (by rw [i', t]; rfl)]
  rfl
theorem kit_cls {C D : Addr} {b : Bool} (i : PySem.W.isClsIn K D = true) (t : PySem.W.typeIn K (.ref D) = some (.type "type")) (s : PySem.W.subIn K (.ref C) (.ref D) = some b) (r : PySem.W.subIn K (.ref D) (.ref D) = some true) : PySem.W.kitOne K (.ref C) (.ref D) = some b := by
  unfold PySem.W.kitOne
  by_cases h : (Value.ref C == Value.ref D) = true
  · have e : C = D := Value.ref.inj (beq_iff_eq.mp h)
    subst e
    rw [if_pos h, ← r, s]
  · rw [if_neg h]
    show (if ((PySem.W.clsIn K D).isSome && PySem.W.typeIn K (.ref D) == some (.type "type")) = true then PySem.W.subIn K (.ref C) (.ref D) else none) = some b
    have i' : (PySem.W.clsIn K D).isSome = true := i
    rw [if_pos (by rw [i', t]; rfl)]
    exact s
theorem ev_isXN {W : Wd} {ρ : List Sl} {te : TE} {C : Addr} (h : Evd K W te ρ .none) (k : PySem.W.kitOne K (.type "NoneType") (.ref C) = some false) : Evd K W (tCB (rIsX K) (tCons te (tCons (tC (.ref C)) tNil))) ρ (.bool false) := fun ms B σ H g Q q =>
  h ms B σ H g _ fun v H1 g1 x1 o1 => by
    cases o1
    exact .inl ⟨.non, .ref C, .type "NoneType", .ref C, false, rfl, .own C, .base .non, k, q _ H1 g1 x1 (.bl _)⟩
inductive Tri (T : Txt K mg) : Out → Bool → Bool → Bool → Prop
  | ok (d : PyData) : Tri T (.ok d) false false false
  | p : Tri T (.no T.cBadPrime) true false false
  | t : Tri T (.no T.cBadTarget) false true false
  | r : Tri T (.no T.cBadRows) false false true
inductive Wy (T : Txt K mg) : Int → PyData → PyData → PyData → Out → Prop
  | a {pd td rd : PyData} {o : Out} : Al T.cBadPrime T.cBadTarget T.cBadRows pd td rd o → Wy T 0 pd td rd o
  | b {pd td rd : PyData} {o : Out} : Ia T.cBadPrime T.cBadTarget T.cBadRows pd td rd (.tuple [.str "sum", .tuple []]) o → Wy T 1 pd td rd o
  | c {pd td rd : PyData} {o : Out} : Rk T.cBadPrime T.cBadRows pd rd o → Wy T 2 pd td rd o
variable {P : Program} {w : World} {base : Heap}
def Gmk (T : Txt K mg) (ds : List PyData) (d : PyData) : Prop := ∃ pd td rd way o b1 b2 b3, Wy T way pd td rd o ∧ Tri T o b1 b2 b3 ∧ ds = [pd, td, rd, .int way] ∧ d = .list [.bool b1, .bool b2, .bool b3]
theorem ok_law_marks (T : Txt K mg) : FnOk P w K mg base CX0 7 T.a_law_marks T.d_law_marks ["p", "target", "rows", "way"] (spP K (Gmk T)) := by
  refine pureOk T.F_law_marks sc_law_marks (by rintro _ _ ⟨_, _, _, _, _, _, _, _, _, _, rfl, _⟩; rfl) fun cdv A outer s H E hr => ⟨_, (pss_cons (ksl 4 sc_law_marks.nd pe_non)
      (pss_cons (ps_try_keep (i := 5) rfl rfl rfl sc_law_marks.nd (by kernel_rfl) (by kernel_rfl) ⟨rfl, (by kernel_rfl), Or.inl T.g_TenderError⟩ (fun W pn xe tk => (pss_one (ps_if (pt_cmpR op_eq (kvl 3) pe_int (nomark _)) (pss_one (kexpr (pe_callS (okalternative T) (hr.mono (by decide)) rfl T.g_alternative T.k_alternative T.b_alternative (fun σ => passAt tk σ) (kpa (kvl 0) (kpa (kvl 1) (kpa (kvl 2) pa_nil))) (by kernel_rfl) (by kernel_rfl) (by kernel_rfl)))) (pss_one (ps_if (pt_cmpR op_eq (kvl 3) pe_int (nomark _)) (pss_one (kexpr (pe_callS (okis_alternative T) (hr.mono (by decide)) rfl T.g_is_alternative T.k_is_alternative T.b_is_alternative (fun σ => passAt tk σ) (kpa (kvl 0) (kpa (kvl 1) (kpa (kvl 2) (kpa (pe_tup (kpa pe_str (kpa (pe_tup pa_nil) pa_nil))) pa_nil)))) (by kernel_rfl) (by kernel_rfl) (by kernel_rfl)))) (pss_one (kexpr (pe_callS (okrank T) (hr.mono (by decide)) rfl T.g_rank T.k_rank T.b_rank (fun σ => passAt tk σ) (kpa (kvl 0) (kpa (kvl 2) pa_nil)) (by kernel_rfl) (by kernel_rfl) (by kernel_rfl))))))))) (fun a oe pn => (pss_one (ksl 4 sc_law_marks.nd (kvl 5)))))
      (pss_one (ps_ret (pe_lst (kpa (kB (r := rIsX K) call_isX T.n_isinstance (kpa (kvl 4) (kpa (kgc' (v := .ref T.cBadPrime) ⟨_, T.g_BadPrime, rfl⟩) pa_nil))) (kpa (kB (r := rIsX K) call_isX T.n_isinstance (kpa (kvl 4) (kpa (kgc' (v := .ref T.cBadTarget) ⟨_, T.g_BadTarget, rfl⟩) pa_nil))) (kpa (kB (r := rIsX K) call_isX T.n_isinstance (kpa (kvl 4) (kpa (kgc' (v := .ref T.cBadRows) ⟨_, T.g_BadRows, rfl⟩) pa_nil))) pa_nil)))))))), ?_⟩
  rintro _ _ ⟨pd, td, rd, way, o, b1, b2, b3, hw, tri, rfl, rfl⟩ ms σ H Q h k
  have h : At K W0 ms ⟨H, H⟩ [.dat pd, .dat td, .dat rd, .dat (.int way), .emp, .emp] σ H := h
  refine q_asg h ev_non fun σ1 H1 h1 _ => ?_
  dsimp only [List.set] at h1
  refine q_cut (M := fun σ' H' => (∃ d, o = .ok d ∧ At K W0 ms ⟨H, H⟩ [.dat pd, .dat td, .dat rd, .dat (.int way), .dat .none, .emp] σ' H') ∨ ∃ c a, o = .no c ∧ σ'[4]? = some (some (.ref a)) ∧ H' a = some (ExK (.ref c) a) ∧ At K W0 ms ⟨H, H⟩ [] [] H') (fun Z hZ => ?_) fun σ2 H2 m2 => ?_
  · have yes : ∀ {σ' : L2.St} (d : PyData), o = .ok d → ∀ H', At K W0 ms ⟨H, H⟩ [.dat pd, .dat td, .dat rd, .dat (.int way), .dat .none, .emp] σ' H' → Z σ' H' := fun d e H' a => hZ _ H' (.inl ⟨d, e, a⟩)
    have no : ∀ {σ' : L2.St} {D : Ends} (c : Addr), D.nx = Z → o = .no c → ∀ H', At K W0 ms ⟨H, H⟩ [.dat pd, .dat td, .dat rd, .dat (.int way), .dat .none, .emp] σ' H' → wKeep K (.ref T.cTenderError) 5 (fun a => tAsg (tVar 5) (gName 4)) D (.ref c) none σ' H' := fun {σ' D} c eD e H' a => by
      have ex : PySem.W.exmOne K (.ref c) (.ref T.cTenderError) = some true := by
        refine PySem.W.exm_ref T.b_TenderError T.e_TenderError.hd T.t_TenderError ?_
        subst e
        cases tri
        · exact T.su_BadPrime_TenderError
        · exact T.su_BadTarget_TenderError
        · exact T.su_BadRows_TenderError
      have sl : σ'.length = 6 := EnvOk.len a.env
      refine ⟨ex, rfl, fun b hb => ⟨.ref b, List.getElem?_set_self (by rw [sl]; decide), ?_⟩⟩
      show D.nx (((σ'.set 5 (some (.ref b))).set 4 (some (.ref b))).set 5 none) (upd H' b (ExK (.ref c) b))
      rw [eD]
      refine hZ _ _ (.inr ⟨c, b, e, ?_, upd_same, a.nil.same (same_put hb)⟩)
      rw [List.getElem?_set_ne (by decide), List.getElem?_set_self (by rw [List.length_set, sl]; decide)]
    cases hw with
    | a hw =>
      refine s_if (b := true) h1 (et_eq (et_test (ev_eqI (evd_var rfl) ev_int)) rfl) (fun _ H3 h3 _ => ?_) fun q => nomatch q
      exact s_callX h3 (ed_cons (evd_var rfl) (ed_cons (evd_var rfl) (ed_cons (evd_var rfl) ed_nil))) ⟨_, _, _, rfl, hw⟩ yes fun c e H' a => no c rfl e H' a
    | b hw =>
      refine s_if (b := false) h1 (et_eq (et_test (ev_eqI (evd_var rfl) ev_int)) rfl) (fun q => nomatch q) fun _ H3 h3 _ => ?_
      refine s_if (b := true) h3 (et_eq (et_test (ev_eqI (evd_var rfl) ev_int)) rfl) (fun _ H4 h4 _ => ?_) fun q => nomatch q
      exact s_callX h4 (ed_cons (evd_var rfl) (ed_cons (evd_var rfl) (ed_cons (evd_var rfl) (ed_cons (ev_tup (ed_cons ev_str (ed_cons (ev_tup ed_nil (Nat.zero_le _)) ed_nil)) (by show 2 ≤ 100000; decide)) ed_nil)))) ⟨_, _, _, _, rfl, hw⟩ yes fun c e H' a => no c rfl e H' a
    | c hw =>
      refine s_if (b := false) h1 (et_eq (et_test (ev_eqI (evd_var rfl) ev_int)) rfl) (fun q => nomatch q) fun _ H3 h3 _ => ?_
      refine s_if (b := false) h3 (et_eq (et_test (ev_eqI (evd_var rfl) ev_int)) rfl) (fun q => nomatch q) fun _ H4 h4 _ => ?_
      exact s_callX h4 (ed_cons (evd_var rfl) (ed_cons (evd_var rfl) ed_nil)) ⟨_, _, rfl, hw⟩ yes fun c e H' a => no c rfl e H' a
  · rcases m2 with ⟨d, e, h2⟩ | ⟨c, a, e, es, ea, h2⟩
    · subst e
      cases tri
      exact s_fin h2 (ev_lst (ed_cons (ev_isXN (evd_var rfl) (kit_none T.i_BadPrime T.t_BadPrime)) (ed_cons (ev_isXN (evd_var rfl) (kit_none T.i_BadTarget T.t_BadTarget)) (ed_cons (ev_isXN (evd_var rfl) (kit_none T.i_BadRows T.t_BadRows)) ed_nil))) (by show 3 ≤ 100000; decide)) k
    · have fin : ExcC K c → PySem.W.kitOne K (.ref c) (.ref T.cBadPrime) = some b1 → PySem.W.kitOne K (.ref c) (.ref T.cBadTarget) = some b2 → PySem.W.kitOne K (.ref c) (.ref T.cBadRows) = some b3 →
          tRet (tLst (tCons (tCB (rIsX K) (tCons (tVar 4) (tCons (tC (.ref T.cBadPrime)) tNil))) (tCons (tCB (rIsX K) (tCons (tVar 4) (tCons (tC (.ref T.cBadTarget)) tNil))) (tCons (tCB (rIsX K) (tCons (tVar 4) (tCons (tC (.ref T.cBadRows)) tNil))) tNil)))) { nx := fun _ H' => Q .non H', rt := Q } σ2 H2 := fun xc k1 k2 k3 => by
        refine ⟨_, es, .inr ⟨a, c, .ref T.cBadPrime, .ref T.cBadPrime, b1, rfl, ea, xc, .own _, k1, _, es, .inr ⟨a, c, .ref T.cBadTarget, .ref T.cBadTarget, b2, rfl, ea, xc, .own _, k2, _, es, .inr ⟨a, c, .ref T.cBadRows, .ref T.cBadRows, b3, rfl, ea, xc, .own _, k3, ?_⟩⟩⟩⟩
        refine ⟨by show 3 ≤ sizeLine; decide, fun p hp => k _ _ (h2.same (same_put hp)) (Sl.new_lst h2.live hp (.cons (.bl _) (.cons (.bl _) (.cons (.bl _) .nil))))⟩
      subst e
      have iP := T.i_BadPrime; have tP := T.t_BadPrime; have iT := T.i_BadTarget; have tT := T.t_BadTarget; have iR := T.i_BadRows; have tR := T.t_BadRows
      cases tri
      · exact fin T.e_BadPrime (kit_cls iP tP T.su_BadPrime_BadPrime T.su_BadPrime_BadPrime) (kit_cls iT tT T.su_BadPrime_BadTarget T.su_BadTarget_BadTarget) (kit_cls iR tR T.su_BadPrime_BadRows T.su_BadRows_BadRows)
      · exact fin T.e_BadTarget (kit_cls iP tP T.su_BadTarget_BadPrime T.su_BadPrime_BadPrime) (kit_cls iT tT T.su_BadTarget_BadTarget T.su_BadTarget_BadTarget) (kit_cls iR tR T.su_BadTarget_BadRows T.su_BadRows_BadRows)
      · exact fin T.e_BadRows (kit_cls iP tP T.su_BadRows_BadPrime T.su_BadPrime_BadPrime) (kit_cls iT tT T.su_BadRows_BadTarget T.su_BadTarget_BadTarget) (kit_cls iR tR T.su_BadRows_BadRows T.su_BadRows_BadRows)
end
end Sc

/-! k60, 18: errors are right. -/
namespace Sc
open PySem L2 Fw La
open PyProof.Rows (envOfC)
section
variable {K : PySem.W.Frag} {W : Wd} {ρ : List Sl} {ta te : TE} {ds : List PyData}
theorem dpa_take {H : Hp} : ∀ {ds : List PyData} {vs : List V} (n : Nat), DpAll K H vs ds → DpAll K H (vs.take n) (ds.take n)
  | [], _, n, h => by cases h; simp; exact .nil
  | d :: ds, _, 0, h => by cases h; exact .nil
  | d :: ds, _, n + 1, h => by cases h with | cons a t => exact .cons a (dpa_take n t)
/-- t[:-1] -/
theorem ev_init0 {tb : TE} (ha : Evd K W ta ρ (.tuple ds)) (hb : Evd K W tb ρ (.int (-1))) : Evd K W (tSl (rSlA K) ta tNoPart (tPart tb)) ρ (.tuple ds.dropLast) := fun ms B σ H a Q q => ha ms B σ H a _ fun v H1 h1 x1 o1 => hb ms B σ H1 h1 _ fun w H2 h2 x2 o2 => by
  cases o2
  have o3 := dp_mono (x2.cut h1.sub) _ _ o1
  refine ⟨_, rfl, ?_⟩
  have o4 := o3
  have sx1 : ∀ n : Nat, HT.sIx n n (some (-1)) = n - 1 := fun n => by
    show (if (-1 : Int) < 0 then (-1 + (n : Int)).toNat else min (-1 : Int).toNat n) = n - 1
    rw [if_pos (by decide)]
    omega
  cases o3 with
  | tup sx dx =>
    have lx := dpa_len dx
    refine ⟨_, _, rfl, sqt_mono cut_le sx, fun hw => q _ H2 h2 (x1.trans x2) ?_, fun _ p hp => q _ _ (h2.same (same_put hp)) ((x1.trans x2).trans (.of_same (same_put hp))) ?_⟩
    · have h2 := hw.2
      rw [sx1] at h2
      have e : ds = [] := List.length_eq_zero_iff.mp (by omega)
      subst e
      exact o4
    · unfold cutV
      rw [HT.sIx_none, sx1, List.drop_zero, Nat.sub_zero, List.dropLast_eq_take, ← lx]
      exact Sl.new_tup h2.live hp (dpa_take _ dx)
theorem ev_initT (ha : Evd K W ta ρ (.tuple ds)) : Evd K W (tSl (rSlA K) ta tNoPart (tPart (tUn (rU fun i => .int (-i)) (tC (.int 1))))) ρ (.tuple ds.dropLast) := ev_init0 ha (ev_neg ev_int)
theorem ev_strI {i : Int} (h : Evd K W te ρ (.int i)) (hi : i.natAbs.log2 < 1920) : Evd K W (tCB (fun xs H Q => ∃ i : Int, xs = [V.int i] ∧ i.natAbs.log2 < 1920 ∧ Q (.str (toString i)) H) (tCons te tNil)) ρ (.str (toString i)) := fun ms B σ H a Q q => h ms B σ H a _ fun v H1 h1 x1 o1 => by
  cases o1
  exact ⟨i, rfl, hi, q _ H1 h1 x1 (.str _)⟩
end
theorem primes_off : ∀ p ∈ primesL, p + 1 ∉ primesL ∧ -p ∉ primesL := by decide +kernel
def prsD (p : Int) : List PyData := [.int 0, .int 7, .int (p + 1), .int 101, .int (-p), .bool true, .none, .str (toString p)]
def tgsD (p : Int) (T : List Int) : List PyData := [.tuple [], .list (T.map .int), .tuple ((T.map PyData.int).dropLast ++ [.int p]), .tuple ((T.map PyData.int).dropLast ++ [.int (-1)]), .tuple (List.replicate 25 (.int 0)), .tuple ([.bool true] ++ (T.map PyData.int).drop 1), .none]
def lotsD (p : Int) (R : List (List Int)) (z : List PyData) (L : Nat) : List PyData := [.list (R.map rowT), .tuple [.tuple z, .tuple (z ++ [.int 0])], .tuple [.list z], .tuple (List.replicate 25 (.tuple z)), .tuple [.tuple (z.dropLast ++ [.int p])], .none, .tuple [.tuple (List.replicate L .none)]]
theorem prs_ok {p : Int} (h : p ∈ primesL) : ∀ d ∈ prsD p, isPr d = false := fun d hd => by
  have o := primes_off p h
  simp only [prsD, List.mem_cons, List.not_mem_nil, or_false] at hd
  rcases hd with rfl | rfl | rfl | rfl | rfl | rfl | rfl | rfl
  · decide +kernel
  · decide +kernel
  · exact decide_eq_false o.1
  · decide +kernel
  · exact decide_eq_false o.2
  · rfl
  · rfl
  · rfl
theorem all_app {xs : List PyData} {d : PyData} {q : PyData → Bool} (h : q d = false) : (xs ++ [d]).all q = false := by
  rw [List.all_append, List.all_cons, h]
  simp
theorem rs_self {p : Int} : isRs p (.int p) = false := by simp [isRs]
theorem rs_neg {p : Int} : isRs p (.int (-1)) = false := by simp [isRs]
theorem tgs_ok {p : Int} {T : List Int} : ∀ d ∈ tgsD p T, isTgt p d = false := fun d hd => by
  simp only [tgsD, List.mem_cons, List.not_mem_nil, or_false] at hd
  rcases hd with rfl | rfl | rfl | rfl | rfl | rfl | rfl
  · rfl
  · rfl
  · simp only [isTgt]; rw [all_app rs_self, Bool.and_false]
  · simp only [isTgt]; rw [all_app rs_neg, Bool.and_false]
  · simp [isTgt]
  · simp [isTgt, isRs]
  · rfl
theorem lots_ok {p : Int} {R : List (List Int)} {z : List PyData} {L : Nat} (l0 : 1 ≤ L) (hz : ∀ d ∈ z, Shp 0 d) (hR : R.length ≤ 24) : ∀ d ∈ lotsD p R z L, (∀ n, isRows p n d = false) ∧ SeqAt.shaped d = true := fun d hd => by
  have sz : Shp 1 (.tuple z) := shp_tuple hz
  have sL : ∀ R : List (List Int), Shp 2 (.list (R.map rowT)) := fun R => shp_list fun d hd => by
    obtain ⟨r, _, rfl⟩ := List.mem_map.mp hd
    exact shp_row r
  simp only [lotsD, List.mem_cons, List.not_mem_nil, or_false] at hd
  rcases hd with rfl | rfl | rfl | rfl | rfl | rfl | rfl
  · exact ⟨fun n => rfl, (sL R).shaped (by decide)⟩
  · refine ⟨fun n => ?_, (shp_tuple (n := 1) fun d hd => ?_).shaped (by decide)⟩
    · simp only [isRows, isRow, List.all_cons, List.all_nil, List.length_append, List.length_singleton]
      by_cases c : z.length = n
      · have : ¬ (z.length + 1 = n) := by omega
        rw [decide_eq_false this]
        simp
      · rw [decide_eq_false c]
        simp
    · simp only [List.mem_cons, List.not_mem_nil, or_false] at hd
      rcases hd with rfl | rfl
      · exact sz
      · exact shp_tuple (n := 0) fun d hd => (List.mem_append.mp hd).elim (hz d) fun q => by rw [List.mem_singleton.mp q]; exact shp_int 0
  · exact ⟨fun n => by simp [isRows, isRow], (shp_tuple (n := 1) fun d hd => by rw [List.mem_singleton.mp hd]; exact shp_list hz).shaped (by decide)⟩
  · exact ⟨fun n => by simp [isRows], (shp_tuple (n := 1) fun d hd => by rw [List.eq_of_mem_replicate hd]; exact sz).shaped (by decide)⟩
  · refine ⟨fun n => ?_, (shp_tuple (n := 1) fun d hd => ?_).shaped (by decide)⟩
    · simp only [isRows, isRow, List.all_cons, List.all_nil]
      rw [all_app rs_self]
      simp
    · rw [List.mem_singleton.mp hd]
      exact shp_tuple (n := 0) fun d hd => (List.mem_append.mp hd).elim (fun q => hz d (List.dropLast_subset _ q)) fun q => by rw [List.mem_singleton.mp q]; exact shp_int p
  · exact ⟨fun n => rfl, shp_none.shaped (by decide)⟩
  · refine ⟨fun n => ?_, (shp_tuple (n := 1) fun d hd => ?_).shaped (by decide)⟩
    · obtain ⟨k, rfl⟩ : ∃ k, L = k + 1 := ⟨L - 1, by omega⟩
      simp [isRows, isRow, List.replicate_succ, isRs]
    · rw [List.mem_singleton.mp hd]
      exact shp_tuple (n := 0) fun d hd => by rw [List.eq_of_mem_replicate hd]; exact shp_none
section
variable {P : Program} {w : World} {K : PySem.W.Frag} {mg : Str → Option Value} {base : Heap}
def Per (ds : List PyData) : Prop := ∃ (p : Int) (T : List Int) (R : List (List Int)), p ∈ primesL ∧ Good p T.length R ∧ Res p T.length T ∧ ds = [.int p, rowT T, rowsT R]
theorem wy_p (T : Txt K mg) {way : Int} (hw : way = 0 ∨ way = 1 ∨ way = 2) {pd td rd : PyData} (h : isPr pd = false) : Wy T way pd td rd (.no T.cBadPrime) := by
  rcases hw with rfl | rfl | rfl
  · exact .a (.p h)
  · exact .b (.p h)
  · exact .c (.p h)
theorem wy_r (T : Txt K mg) {way p : Int} (hw : way = 0 ∨ way = 1 ∨ way = 2) {TT : List Int} {rd : PyData} (hp : p ∈ primesL) (rT : Res p TT.length TT) (l0 : 1 ≤ TT.length) (l1 : TT.length ≤ 24) (h : ∀ n, isRows p n rd = false) (s : SeqAt.shaped rd = true) : Wy T way (.int p) (rowT TT) rd (.no T.cBadRows) := by
  rcases hw with rfl | rfl | rfl
  · exact .a (.r hp rT l0 l1 (h _))
  · exact .b (.r hp rT l0 l1 (h _))
  · exact .c (.r hp s (.inr (h _)))
theorem ok_law_errors_right (T : Txt K mg) : FnOk P w K mg base CX0 8 T.a_law_errors_right T.d_law_errors_right ["draw", "p", "target", "rows"] (spD K Per fun _ d => d = .bool true) := by
  refine drawOkU T.F_law_errors_right sc_law_errors_right (by rintro _ ⟨_, _, _, _, _, _, rfl⟩; rfl) fun cdv A outer s H E hr => ⟨_, (pss_cons (kpar (i := 4) (j := 5) (by rfl) sc_law_errors_right.nd (by decide) (kpa (kB (r := rLenQ K) call_len_seq T.n_len (kpa (kvl 2) pa_nil)) (kpa (kcall (ok_law_se_take T) (hr.mono (by decide)) T.g__law_se_take T.k__law_se_take T.b__law_se_take (kpa (kvl 0) (kpa pe_int pa_nil))) pa_nil)))
      (pss_cons (ksl 6 sc_law_errors_right.nd (pe_lst (kpa pe_int (kpa pe_int (kpa (pe_op op_add (kvl 1) pe_int) (kpa pe_int (kpa (pe_un un_neg (kvl 1)) (kpa pe_bl (kpa pe_non (kpa (kTy call_str_int T.n_str (kpa (kvl 1) pa_nil)) pa_nil))))))))))
      (pss_cons (ksl 7 sc_law_errors_right.nd (pe_lst (kpa (pe_tup pa_nil) (kpa (kTy (r := rLstOf K) call_list_of T.n_list (kpa (kvl 2) pa_nil)) (kpa (pe_op (r := rCatA K) op_catA (pe_slice (r := rSlA K) sl_tupA (kvl 2) po_none (po_some (pe_un un_neg pe_int))) (pe_tup (kpa (kvl 1) pa_nil))) (kpa (pe_op (r := rCatA K) op_catA (pe_slice (r := rSlA K) sl_tupA (kvl 2) po_none (po_some (pe_un un_neg pe_int))) (pe_tup (kpa (pe_un un_neg pe_int) pa_nil))) (kpa (pe_op (r := rRepA K) op_repA (pe_tup (kpa pe_int pa_nil)) pe_int) (kpa (pe_op (r := rCatA K) op_catA (pe_tup (kpa pe_bl pa_nil)) (pe_slice (r := rSlA K) sl_tupA (kvl 2) (po_some pe_int) po_none)) (kpa pe_non pa_nil)))))))))
      (pss_cons (ksl 8 sc_law_errors_right.nd (pe_op (r := rRepA K) op_repA (pe_tup (kpa pe_int pa_nil)) (kvl 4)))
      (pss_cons (ksl 9 sc_law_errors_right.nd (pe_lst (kpa (kTy (r := rLstOf K) call_list_of T.n_list (kpa (kvl 3) pa_nil)) (kpa (pe_tup (kpa (kvl 8) (kpa (pe_op (r := rCatA K) op_catA (kvl 8) (pe_tup (kpa pe_int pa_nil))) pa_nil))) (kpa (pe_tup (kpa (kTy (r := rLstOf K) call_list_of T.n_list (kpa (kvl 8) pa_nil)) pa_nil)) (kpa (pe_op (r := rRepA K) op_repA (pe_tup (kpa (kvl 8) pa_nil)) pe_int) (kpa (pe_tup (kpa (pe_op (r := rCatA K) op_catA (pe_slice (r := rSlA K) sl_tupA (kvl 8) po_none (po_some (pe_un un_neg pe_int))) (pe_tup (kpa (kvl 1) pa_nil))) pa_nil)) (kpa pe_non (kpa (pe_tup (kpa (pe_op (r := rRepA K) op_repA (pe_tup (kpa pe_non pa_nil)) (kvl 4)) pa_nil)) pa_nil)))))))))
      (pss_cons (kpar (i := 10) (j := 11) (by rfl) sc_law_errors_right.nd (by decide) (kpa (pe_ix (r := rIxL K) ix_list (kvl 6) (kcall (ok_law_se_take T) (hr.mono (by decide)) T.g__law_se_take T.k__law_se_take T.b__law_se_take (kpa (kvl 0) (kpa pe_int pa_nil))) (fun _ _ => rfl)) (kpa (pe_ix (r := rIxL K) ix_list (kvl 7) (kcall (ok_law_se_take T) (hr.mono (by decide)) T.g__law_se_take T.k__law_se_take T.b__law_se_take (kpa (kvl 0) (kpa pe_int pa_nil))) (fun _ _ => rfl)) pa_nil)))
      (pss_cons (ksl 12 sc_law_errors_right.nd (pe_ix (r := rIxL K) ix_list (kvl 9) (kcall (ok_law_se_take T) (hr.mono (by decide)) T.g__law_se_take T.k__law_se_take T.b__law_se_take (kpa (kvl 0) (kpa pe_int pa_nil))) (fun _ _ => rfl)))
      (pss_cons (ps_if (PW.pt (pw_and (pt_cmpR op_lt (kvl 5) pe_int (nomark _)) (pw_and1 (pt_not (kval (kcall (ok_law_se_one T) (hr.mono (by decide)) T.g__law_se_one T.k__law_se_one T.b__law_se_one (kpa (kcall (ok_law_marks T) (hr.mono (by decide)) T.g__law_marks T.k__law_marks T.b__law_marks (kpa (kvl 1) (kpa (kvl 11) (kpa (kvl 12) (kpa (kvl 5) pa_nil))))) (kpa pe_int pa_nil)))))))) (pss_one (ps_ret pe_bl)) pss_nil)
      (pss_cons (ps_if (pt_not (kval (kcall (ok_law_se_one T) (hr.mono (by decide)) T.g__law_se_one T.k__law_se_one T.b__law_se_one (kpa (kcall (ok_law_marks T) (hr.mono (by decide)) T.g__law_marks T.k__law_marks T.b__law_marks (kpa (kvl 10) (kpa (kvl 11) (kpa (kvl 12) (kpa (kvl 5) pa_nil))))) (kpa pe_int pa_nil))))) (pss_one (ps_ret pe_bl)) pss_nil)
      (pss_cons (ps_if (pt_not (kval (kcall (ok_law_se_one T) (hr.mono (by decide)) T.g__law_se_one T.k__law_se_one T.b__law_se_one (kpa (kcall (ok_law_marks T) (hr.mono (by decide)) T.g__law_marks T.k__law_marks T.b__law_marks (kpa (kvl 1) (kpa (kvl 2) (kpa (kvl 12) (kpa (kvl 5) pa_nil))))) (kpa pe_int pa_nil))))) (pss_one (ps_ret pe_bl)) pss_nil)
      (pss_one (ps_ret (pe_cmpR (r := rEqD K) (op_eqD hr.units) (kcall (ok_law_marks T) (hr.mono (by decide)) T.g__law_marks T.k__law_marks T.b__law_marks (kpa (kvl 1) (kpa (pe_op (r := rRepA K) op_repA (pe_tup (kpa pe_int pa_nil)) pe_int) (kpa (pe_op (r := rRepA K) op_repA (pe_tup (kpa (pe_op (r := rRepA K) op_repA (pe_tup (kpa pe_int pa_nil)) pe_int) pa_nil)) pe_int) (kpa (kvl 5) pa_nil))))) (pe_lst (kpa pe_bl (kpa pe_bl (kpa pe_bl pa_nil)))) (nomark _)))))))))))))), ?_⟩
  rintro _ ⟨p, TT, R, hp, G, rT, rfl⟩ A ms σ H Q h k
  have h : At K (SW K A) ms ⟨H, H⟩ [.raw (.ref A.d), .dat (.int p), .dat (rowT TT), .dat (rowsT R), .emp, .emp, .emp, .emp, .emp, .emp, .emp, .emp, .emp] σ H := h
  have lo := G.P.lo
  have hi := G.P.hi
  have l0 := G.L0
  have l1 := G.L1
  have rl := G.rl
  refine q_parN (Φ1 := (· = .dat (.int (TT.length : Int)))) h (en_of_ev (evd_eq (ev_lenT (evd_var rfl)) (by rw [List.length_map])) rfl) (en_take rfl ev_int (by decide) (by decide)) fun s1 s2 σ1 H1 p1 p2 h1 => ?_
  subst p1
  obtain ⟨way, rfl, w0, w1⟩ := p2
  have hw : way = 0 ∨ way = 1 ∨ way = 2 := by omega
  dsimp only [List.set] at h1
  refine q_asg h1 (ev_lst (ds := prsD p) (ed_cons ev_int (ed_cons ev_int (ed_cons (ev_add (evd_var rfl) ev_int) (ed_cons ev_int (ed_cons (ev_neg (evd_var rfl)) (ed_cons ev_bl (ed_cons ev_non (ed_cons (ev_strI (evd_var rfl) (Nat.lt_of_le_of_lt (Nat.log2_le_self _) (by omega))) ed_nil)))))))) (by show 8 ≤ 100000; decide)) fun σ2 H2 h2 _ => ?_
  dsimp only [List.set] at h2
  have one : ∀ {ρ : List Sl} {te : TE} {d : PyData}, Evd K (SW K A) te ρ d → Evd K (SW K A) (tTup (tCons te tNil)) ρ (.tuple [d]) := fun e => ev_tup (ed_cons e ed_nil) (by show 1 ≤ 100000; decide)
  have tl : (TT.map PyData.int).dropLast.length ≤ 24 := by rw [List.length_dropLast, List.length_map]; omega
  refine q_asg h2 (ev_lst (ds := tgsD p TT) (ed_cons (ev_tup ed_nil (Nat.zero_le _)) (ed_cons (ev_lstT (evd_var rfl)) (ed_cons (ev_catT (ev_initT (evd_var rfl)) (one (evd_var rfl)) (by show _ + 1 ≤ _; omega)) (ed_cons (ev_catT (ev_initT (evd_var rfl)) (one (ev_neg ev_int)) (by show _ + 1 ≤ _; omega)) (ed_cons (ev_repT (n := 25) (one ev_int) ev_int (by decide)) (ed_cons (ev_catT (one ev_bl) (ev_fromT (j := 1) (evd_var rfl) ev_int) (by rw [List.length_drop, List.length_map]; show 1 + _ ≤ _; omega)) (ed_cons ev_non ed_nil))))))) (by show 7 ≤ 100000; decide)) fun σ3 H3 h3 _ => ?_
  dsimp only [List.set] at h3
  refine q_asg h3 (ev_repT (n := TT.length) (one ev_int) (evd_var rfl) (by omega)) fun σ4 H4 h4 _ => ?_
  dsimp only [List.set] at h4
  have zl : (List.replicate TT.length (PyData.int 0)).length = TT.length := List.length_replicate
  have zs : ∀ d ∈ List.replicate TT.length (PyData.int 0), Shp 0 d := fun d hd => by rw [List.eq_of_mem_replicate hd]; exact shp_int 0
  generalize List.replicate TT.length (PyData.int 0) = z at h4 zl zs
  refine q_asg h4 (ev_lst (ds := lotsD p R z TT.length) (ed_cons (ev_lstT (evd_var rfl)) (ed_cons (ev_tup (ed_cons (evd_var rfl) (ed_cons (ev_catT (evd_var rfl) (one ev_int) (by show _ + 1 ≤ _; omega)) ed_nil)) (by show 2 ≤ 100000; decide)) (ed_cons (one (ev_lstT (evd_var rfl))) (ed_cons (ev_repT (n := 25) (one (evd_var rfl)) ev_int (by decide)) (ed_cons (one (ev_catT (ev_initT (evd_var rfl)) (one (evd_var rfl)) (by rw [List.length_dropLast]; show _ + 1 ≤ _; omega))) (ed_cons ev_non (ed_cons (one (ev_repT (n := TT.length) (one ev_non) (evd_var rfl) (by omega))) ed_nil))))))) (by show 7 ≤ 100000; decide)) fun σ5 H5 h5 _ => ?_
  dsimp only [List.set] at h5
  have lok := lots_ok (p := p) (R := R) (z := z) l0 zs rl
  have pok := prs_ok hp
  have tok := tgs_ok (p := p) (T := TT)
  have pl : (prsD p).length = 8 := rfl
  have tll : (tgsD p TT).length = 7 := rfl
  have ll : (lotsD p R z TT.length).length = 7 := rfl
  generalize prsD p = prs at h5 pok pl
  generalize tgsD p TT = tgs at h5 tok tll
  generalize lotsD p R z TT.length = lots at h5 lok ll
  refine q_parN h5 (en_ixL (evd_var rfl) (en_take (m := 8) rfl ev_int (by decide) (by decide)) fun n q => by rw [pl]; exact q) (en_ixL (evd_var rfl) (en_take (m := 7) rfl ev_int (by decide) (by decide)) fun n q => by rw [tll]; exact q) fun s1 s2 σ6 H6 p1 p2 h6 => ?_
  obtain ⟨wp, rfl, mp⟩ := p1
  obtain ⟨wt, rfl, mt⟩ := p2
  dsimp only [List.set] at h6
  refine q_asgN h6 (en_ixL (evd_var rfl) (en_take (m := 7) rfl ev_int (by decide) (by decide)) fun n q => by rw [ll]; exact q) fun s3 σ7 H7 p3 h7 => ?_
  obtain ⟨wr, rfl, mr⟩ := p3
  dsimp only [List.set] at h7
  obtain ⟨r1, r2⟩ := lok wr mr
  have marks : ∀ {ρ : List Sl} {ta tb tc td : TE} {pd td' rd : PyData} {o : Out} {b1 b2 b3 : Bool} {E : XK}, Evd K (SW K A) ta ρ pd → Evd K (SW K A) tb ρ td' → Evd K (SW K A) tc ρ rd → Evd K (SW K A) td ρ (.int way) → Wy T way pd td' rd o → Tri T o b1 b2 b3 → Evd K (SW K A) (tCall (spP K (Gmk T)) [] E (tCons ta (tCons tb (tCons tc (tCons td tNil))))) ρ (.list [.bool b1, .bool b2, .bool b3]) := fun a b c d hw t => ev_call (ed_cons a (ed_cons b (ed_cons c (ed_cons d ed_nil)))) ⟨_, _, _, way, _, _, _, _, hw, t, rfl, rfl⟩
  refine q_when (b := false) h7 (et_eq (et_and (a := decide (way < 2)) (b := false) (et_test (ev_lt (evd_var rfl) ev_int)) fun q => et_eq (et_not (et_B (ev_call (ed_cons (marks (o := .no T.cBadTarget) (evd_var rfl) (evd_var rfl) (evd_var rfl) (evd_var rfl) ?_ .t) (ed_cons ev_int ed_nil)) ⟨false, true, false, 1, by decide, rfl, rfl⟩))) rfl) (by simp)) (fun q => nomatch q) fun _ H8 h8 _ => ?_
  · have : way < 2 := of_decide_eq_true q
    rcases hw with rfl | rfl | rfl
    · exact .a (.t hp (tok wt mt))
    · exact .b (.t hp (tok wt mt))
    · omega
  refine q_when (b := false) h8 (et_eq (et_not (et_B (ev_call (ed_cons (marks (o := .no T.cBadPrime) (evd_var rfl) (evd_var rfl) (evd_var rfl) (evd_var rfl) (wy_p T hw (pok wp mp)) .p) (ed_cons ev_int ed_nil)) ⟨true, false, false, 0, by decide, rfl, rfl⟩))) rfl) (fun q => nomatch q) fun _ H9 h9 _ => ?_
  refine q_when (b := false) h9 (et_eq (et_not (et_B (ev_call (ed_cons (marks (o := .no T.cBadRows) (evd_var rfl) (evd_var rfl) (evd_var rfl) (evd_var rfl) (wy_r T hw hp rT l0 l1 r1 r2) .r) (ed_cons ev_int ed_nil)) ⟨false, false, true, 2, by decide, rfl, rfl⟩))) rfl) (fun q => nomatch q) fun _ H10 h10 _ => ?_
  have zr : Res p 24 (List.replicate 24 0) := ⟨by simp, fun x hx => by rw [List.eq_of_mem_replicate hx]; omega⟩
  have GZ : Good p 24 (List.replicate 24 (List.replicate 24 0)) := ⟨G.P, by decide, by decide, by simp, fun r hr => by rw [List.eq_of_mem_replicate hr]; exact zr⟩
  have wz : ∃ d, Wy T way (.int p) (rowT (List.replicate 24 0)) (rowsT (List.replicate 24 (List.replicate 24 0))) (.ok d) := by
    rcases hw with rfl | rfl | rfl
    · exact ⟨_, .a (.ok hp zr GZ)⟩
    · exact ⟨_, .b (.ok hp zr GZ (.str _ _))⟩
    · exact ⟨_, .c (.ok hp GZ)⟩
  obtain ⟨d, wz⟩ := wz
  have zrow : ∀ {ρ : List Sl}, Evd K (SW K A) (tOp (rRepA K) (tTup (tCons (tC (.int 0)) tNil)) (tC (.int 24))) ρ (rowT (List.replicate 24 0)) := fun {ρ} => evd_eq (ev_repT (n := 24) (one ev_int) ev_int (by decide)) (by unfold rowT; rw [List.map_replicate])
  have sh3 : SeqAt.shaped (.list [.bool false, .bool false, .bool false]) = true := (shp_list (n := 0) (by simp [shp_bool])).shaped (by decide)
  exact s_fin h10 (evd_eq (ev_eqD (marks (evd_var rfl) zrow (evd_eq (ev_repT (n := 24) (one zrow) ev_int (by decide)) (by unfold rowsT; rw [List.map_replicate])) (evd_var rfl) wz (.ok d)) (ev_lst (ed_cons ev_bl (ed_cons ev_bl (ed_cons ev_bl ed_nil))) (by show 3 ≤ 100000; decide)) sh3 sh3) rfl) fun v H' a o => k _ v H' rfl a o
end
end Sc

/-! k60, 19: the law. -/
namespace Sc
open PySem L2 Fw La
open PyProof.Rows (envOfC)
section
variable {K : PySem.W.Frag} {W : Wd} {ρ : List Sl} {ta tb : TE} {ds : List PyData}
theorem en_ixTD {Ψ : Int → Prop} (ha : Evd K W ta ρ (.tuple ds)) (hb : En K W tb ρ (IsI Ψ)) (h : ∀ n, Ψ n → 0 ≤ n ∧ n < (ds.length : Int)) : En K W (tOp (rIxT K) ta tb) ρ (IsD fun d => d ∈ ds) :=
  en_op (Φ1 := (· = .dat (.tuple ds))) (Φ2 := IsI Ψ) (en_of_ev ha rfl) hb fun s1 s2 e1 ⟨n, e2, p⟩ => by
    subst e1 e2
    have hn := h n p
    obtain ⟨j, rfl⟩ : ∃ j : Nat, n = (j : Int) := ⟨n.toNat, by omega⟩
    have hj : j < ds.length := by omega
    have e : ds[j]? = some ds[j] := List.getElem?_eq_getElem hj
    refine ⟨.dat ds[j], ⟨_, rfl, List.getElem_mem hj⟩, rs_ixT ?_⟩
    unfold atI
    rw [ix_nat hj]
    exact e
end
/-- what is told of the answer -/
theorem answer_ok {p : Int} {T : List Int} {R : List (List Int)} (G : Good p T.length R) (rT : Res p T.length T) :
    ansB p T R (ansD p T R) = true ∧ (altL p T R).1 = decide (lrank p (R ++ [T]) = lrank p R) ∧ (altL p T R).2.length ≤ 24 := by
  have rl := G.rl
  have l1 := G.L1
  unfold ansD
  rcases alt_ok G.P G.R rT with ⟨h1, rv, h3, h4⟩ | ⟨h1, rv, h3, h4, h5⟩
  · rw [h1]
    refine ⟨?_, (decide_eq_true h4).symm, by rw [rv.len]; exact rl⟩
    show ansB p T R (.tuple [.str "sum", rowT _]) = true
    rw [ansB_sum rv]
    exact decide_eq_true h3
  · rw [h1]
    refine ⟨?_, (decide_eq_false h5).symm, by rw [rv.len]; exact l1⟩
    show ansB p T R (.tuple [.str "apart", rowT _]) = true
    rw [ansB_ap rv, decide_eq_true h3, Bool.true_and, List.all_eq_true]
    exact fun r hr => decide_eq_true (h4 r hr)
theorem head_good {p : Int} {L : Nat} {R : List (List Int)} (G : Good p L R) : Good p (headLen (rowsT R)) R := by
  cases R with
  | nil => exact ⟨G.P, Nat.le_refl _, by decide, Nat.zero_le _, fun r h => nomatch h⟩
  | cons r R =>
    have e : headLen (rowsT (r :: R)) = L := by
      show (r.map PyData.int).length = L
      rw [List.length_map, (G.R r List.mem_cons_self).len]
    rw [e]
    exact G
section
variable {P : Program} {w : World} {K : PySem.W.Frag} {mg : Str → Option Value}
theorem law_ok (T : Txt K mg) : LawAt P w K mg "law" slaw T.alaw T.dlaw 9 63 "script" := by
  refine ⟨T.Flaw, nlaw, sclaw, fun base cdv s H _ hr => ?_⟩
  refine ⟨_, (pss_cons (ksl 1 sclaw.nd (kcall (ok_law_se_begin T) (hr.mono (by decide)) T.g__law_se_begin T.k__law_se_begin T.b__law_se_begin (kpa (kvl 0) pa_nil)))
      (pss_cons (ps_if (pt_cmpR (r := rNeD K) (op_neD hr.units) (kgc' T.c_PRIMES) (pe_call0 (ok_law_se_primes T) (hr.mono (by decide)) rfl T.g__law_se_primes T.k__law_se_primes T.b__law_se_primes .nil pass0 (by kernel_rfl)) (nomark _)) (pss_one (ps_ret pe_bl)) pss_nil)
      (pss_cons (ksl 2 sclaw.nd (pe_ix (r := rIxT K) ix_tup (pe_call0 (ok_law_se_primes T) (hr.mono (by decide)) rfl T.g__law_se_primes T.k__law_se_primes T.b__law_se_primes .nil pass0 (by kernel_rfl)) (kcall (ok_law_se_take T) (hr.mono (by decide)) T.g__law_se_take T.k__law_se_take T.b__law_se_take (kpa (kvl 1) (kpa pe_int pa_nil))) (fun _ _ => rfl)))
      (pss_cons (ksl 3 sclaw.nd (pe_ix (r := rIxL K) ix_list (pe_lst (kpa (pe_op op_add pe_int (kcall (ok_law_se_take T) (hr.mono (by decide)) T.g__law_se_take T.k__law_se_take T.b__law_se_take (kpa (kvl 1) (kpa pe_int pa_nil)))) (kpa (pe_op op_add pe_int (kcall (ok_law_se_take T) (hr.mono (by decide)) T.g__law_se_take T.k__law_se_take T.b__law_se_take (kpa (kvl 1) (kpa pe_int pa_nil)))) (kpa pe_int pa_nil)))) (kcall (ok_law_se_take T) (hr.mono (by decide)) T.g__law_se_take T.k__law_se_take T.b__law_se_take (kpa (kvl 1) (kpa pe_int pa_nil))) (fun _ _ => rfl)))
      (pss_cons (ksl 4 sclaw.nd (kcall (ok_law_rows T) (hr.mono (by decide)) T.g__law_rows T.k__law_rows T.b__law_rows (kpa (kvl 1) (kpa (kvl 2) (kpa (kvl 3) pa_nil)))))
      (pss_cons (ksl 5 sclaw.nd (kcall (ok_law_target T) (hr.mono (by decide)) T.g__law_target T.k__law_target T.b__law_target (kpa (kvl 1) (kpa (kvl 2) (kpa (kvl 3) (kpa (kvl 4) pa_nil))))))
      (pss_cons (ksl 6 sclaw.nd (pe_call (okalternative T) (hr.mono (by decide)) rfl T.g_alternative T.k_alternative T.b_alternative .nil passL (kpa (kvl 2) (kpa (kvl 5) (kpa (kvl 4) pa_nil))) (by kernel_rfl) (by kernel_rfl) (by kernel_rfl)))
      (pss_cons (ksl 7 sclaw.nd (pe_ix (r := rIxL K) ix_list (pe_lst (kpa pe_str (kpa pe_str pa_nil))) (kTy call_int1 T.n_int (kpa (kcall (ok_law_se_is_in T) (hr.mono (by decide)) T.g__law_se_is_in T.k__law_se_is_in T.b__law_se_is_in (kpa (kvl 2) (kpa (kvl 5) (kpa (kvl 4) pa_nil)))) pa_nil)) (fun _ _ => rfl)))
      (pss_cons (ps_if (PW.pt (pw_or (pt_not (kval (kcall (ok_law_is_answer T) (hr.mono (by decide)) T.g__law_is_answer T.k__law_is_answer T.b__law_is_answer (kpa (kvl 2) (kpa (kvl 5) (kpa (kvl 4) (kpa (kvl 6) pa_nil))))))) (pw_or1 (pt_cmpR op_ne (pe_ix (r := rIxT K) ix_tup (kvl 6) pe_int (fun _ _ => rfl)) (kvl 7) (nomark _))))) (pss_one (ps_ret pe_bl)) pss_nil)
      (pss_cons (ps_if (PW.pt (pw_or (pt_cmpR op_ne (pe_call (okrank T) (hr.mono (by decide)) rfl T.g_rank T.k_rank T.b_rank .nil passL (kpa (kvl 2) (kpa (kvl 4) pa_nil)) (by kernel_rfl) (by kernel_rfl) (by kernel_rfl)) (kcall (ok_law_se_rank T) (hr.mono (by decide)) T.g__law_se_rank T.k__law_se_rank T.b__law_se_rank (kpa (kvl 2) (kpa (kvl 4) pa_nil))) (nomark _)) (pw_or1 (pt_cmpR op_notBl (pe_call (okis_alternative T) (hr.mono (by decide)) rfl T.g_is_alternative T.k_is_alternative T.b_is_alternative .nil passL (kpa (kvl 2) (kpa (kvl 5) (kpa (kvl 4) (kpa (kvl 6) pa_nil)))) (by kernel_rfl) (by kernel_rfl) (by kernel_rfl)) pe_bl (nomark _))))) (pss_one (ps_ret pe_bl)) pss_nil)
      (pss_cons (ps_for PassesOwn.never rfl (krg1 T.n_range (kpa pe_int pa_nil)) (kgl 8 sclaw.nd) (pss_cons (ksl 9 sclaw.nd (kcall (ok_law_se_bent T) (hr.mono (by decide)) T.g__law_se_bent T.k__law_se_bent T.b__law_se_bent (kpa (kvl 1) (kpa (kvl 2) (kpa (kvl 6) (kpa (pe_lst (kpa pe_str (kpa pe_str (kpa pe_str (kpa pe_str pa_nil))))) pa_nil))))))
      (pss_one (ps_if (pt_not (kval (kcall (ok_law_se_says T) (hr.mono (by decide)) T.g__law_se_says T.k__law_se_says T.b__law_se_says (kpa (pe_call (okis_alternative T) (hr.mono (by decide)) rfl T.g_is_alternative T.k_is_alternative T.b_is_alternative .nil passL (kpa (kvl 2) (kpa (kvl 5) (kpa (kvl 4) (kpa (kvl 9) pa_nil)))) (by kernel_rfl) (by kernel_rfl) (by kernel_rfl)) (kpa (kcall (ok_law_is_answer T) (hr.mono (by decide)) T.g__law_is_answer T.k__law_is_answer T.b__law_is_answer (kpa (kvl 2) (kpa (kvl 5) (kpa (kvl 4) (kpa (kvl 9) pa_nil))))) pa_nil))))) (pss_one (ps_ret pe_bl)) pss_nil))))
      (pss_one (ps_ret (kcall (ok_law_errors_right T) (hr.mono (by decide)) T.g__law_errors_right T.k__law_errors_right T.b__law_errors_right (kpa (kvl 1) (kpa (kvl 2) (kpa (kvl 5) (kpa (kvl 4) pa_nil)))))))))))))))))), fun a ns hl h => ?_⟩
  have h : At K W0 [] ⟨H, H⟩ [.dat (.list (ns.map .int)), .emp, .emp, .emp, .emp, .emp, .emp, .emp, .emp, .emp] (L2.start nlaw [.ref a]) H := h
  refine q_begun (ns := ns) h rfl hl fun A σ1 H1 h1 => ?_
  dsimp only [List.set] at h1
  refine q_when (b := false) h1 (et_eq (et_test (ev_neD (d := rowT primesL) (ev_cd fun H => T.e_PRIMES H) (ev_call ed_nil ⟨rfl, rfl⟩) ((shp_row _).shaped (by decide)) ((shp_row _).shaped (by decide)))) (by rw [eqv_row, decide_eq_true rfl]; rfl)) (fun q => nomatch q) fun _ H2 h2 _ => ?_
  refine q_asgN h2 (en_ixTD (ds := primesL.map .int) (ev_call ed_nil ⟨rfl, rfl⟩) (en_take (m := 21) rfl ev_int (by decide) (by decide)) fun n q => q) fun s3 σ3 H3 p3 h3 => ?_
  obtain ⟨_, rfl, mp⟩ := p3
  obtain ⟨p, hp, rfl⟩ := List.mem_map.mp mp
  clear mp
  have Pp := prm_of hp
  have lo := Pp.lo
  have hi := Pp.hi
  dsimp only [List.set] at h3
  refine q_asgN h3 (en_ixLN (Ψ2 := fun m => 0 ≤ m ∧ m < 3) (en_lstAll (P := fun d => ∃ L : Nat, d = .int (L : Int) ∧ 1 ≤ L ∧ L ≤ 24) (end_all1 (isd_of (Ψ := fun z => 1 ≤ z ∧ z ≤ 24) (en_I0 (Ψ1 := (· = 1)) (Ψ2 := fun z => 0 ≤ z ∧ z < 6) (en_int rfl) (en_take rfl ev_int (by decide) (by decide)) fun i j a b => by subst a; omega) fun z q => ⟨z.toNat, by congr 1; omega, by omega, by omega⟩) (end_all1 (isd_of (Ψ := fun z => 1 ≤ z ∧ z ≤ 24) (en_I0 (Ψ1 := (· = 1)) (Ψ2 := fun z => 0 ≤ z ∧ z < 24) (en_int rfl) (en_take rfl ev_int (by decide) (by decide)) fun i j a b => by subst a; omega) fun z q => ⟨z.toNat, by congr 1; omega, by omega, by omega⟩) (end_all1 (isd_evd ev_int ⟨24, rfl, by decide, by decide⟩) end_all0))) (by decide)) (en_take rfl ev_int (by decide) (by decide)) fun ds m q1 q2 => by rw [q1.1]; exact q2) fun s4 σ4 H4 p4 h4 => ?_
  obtain ⟨_, rfl, ds, q4, m4⟩ := p4
  obtain ⟨L, rfl, l0, l1⟩ := q4.2 _ m4
  clear q4 m4
  dsimp only [List.set] at h4
  have G0 : Good p L [] := ⟨Pp, l0, l1, Nat.zero_le _, fun r h => nomatch h⟩
  refine q_asgN h4 ((en_callU rfl (end_of (ed_cons (evd_var rfl) (ed_cons (evd_var rfl) ed_nil)) (Ψ := (· = [.int p, .int (L : Int)])) rfl) fun ds q => ⟨p, L, G0, q⟩).isd (P' := fun d => ∃ R, Good p L R ∧ d = rowsT R) fun d ⟨ds, q, p', L', R, e, g, ed⟩ => ?_) fun s5 σ5 H5 p5 h5 => ?_
  · rw [show ds = _ from q] at e
    simp only [List.cons.injEq, PyData.int.injEq, and_true] at e
    obtain ⟨e1, e2⟩ := e
    have e2 : L = L' := by omega
    subst e1 e2 ed
    exact ⟨R, g, rfl⟩
  obtain ⟨_, rfl, R, G, rfl⟩ := p5
  dsimp only [List.set] at h5
  refine q_asgN h5 ((en_callU rfl (end_of (ed_cons (evd_var rfl) (ed_cons (evd_var rfl) (ed_cons (evd_var rfl) ed_nil))) (Ψ := (· = [.int p, .int (L : Int), rowsT R])) rfl) fun ds q => ⟨p, L, R, G, q⟩).isd (P' := fun d => ∃ v, Res p L v ∧ d = rowT v) fun d ⟨ds, q, p', L', R', v, e, rv, ed⟩ => ?_) fun s6 σ6 H6 p6 h6 => ?_
  · rw [show ds = _ from q] at e
    simp only [List.cons.injEq, PyData.int.injEq, and_true] at e
    obtain ⟨e1, e2, _⟩ := e
    have e2 : L = L' := by omega
    subst e1 e2 ed
    exact ⟨v, rv, rfl⟩
  obtain ⟨_, rfl, TT, rT, rfl⟩ := p6
  dsimp only [List.set] at h6
  obtain rfl : L = TT.length := rT.len.symm
  obtain ⟨a1, a2, a3⟩ := answer_ok G rT
  have rl := G.rl
  refine q_asg h6 (ev_callX (d := ansD p TT R) (ed_cons (evd_var rfl) (ed_cons (evd_var rfl) (ed_cons (evd_var rfl) ed_nil))) ⟨_, _, _, rfl, .ok hp rT G⟩) fun σ7 H7 h7 _ => ?_
  dsimp only [List.set] at h7
  have dom : Dom (ansD p TT R) := .str _ _
  refine q_asg h7 (ev_ixL (d := .str (if (altL p TT R).1 then "sum" else "apart")) (ev_lst (ed_cons ev_str (ed_cons ev_str ed_nil)) (by show 2 ≤ 100000; decide)) (ev_toIntB (ev_call (ed_cons (evd_var rfl) (ed_cons (evd_var rfl) (ed_cons (evd_var rfl) ed_nil))) ⟨p, TT.length, R, TT, G, rT, rfl, rfl⟩)) (by rw [a2]; cases decide (lrank p (R ++ [TT]) = lrank p R) <;> rfl)) fun σ8 H8 h8 _ => ?_
  dsimp only [List.set] at h8
  have ans : ∀ {ρ : List Sl} {ta tb tc td : TE} {E : XK} {x : PyData}, Evd K (SW K A) ta ρ (.int p) → Evd K (SW K A) tb ρ (rowT TT) → Evd K (SW K A) tc ρ (rowsT R) → Evd K (SW K A) td ρ x → Evd K (SW K A) (tCall (spP K Gia) [] E (tCons ta (tCons tb (tCons tc (tCons td tNil))))) ρ (.bool (ansB p TT R x)) := fun a b c d => ev_call (ed_cons a (ed_cons b (ed_cons c (ed_cons d ed_nil)))) ⟨p, TT, R, _, rT, G, rfl, rfl⟩
  have isa : ∀ {ρ : List Sl} {ta tb tc td : TE} {E : XK} {x : PyData}, Dom x → Evd K (SW K A) ta ρ (.int p) → Evd K (SW K A) tb ρ (rowT TT) → Evd K (SW K A) tc ρ (rowsT R) → Evd K (SW K A) td ρ x → Evd K (SW K A) (tCall (spX K (Oia T)) [] E (tCons ta (tCons tb (tCons tc (tCons td tNil))))) ρ (.bool (ansB p TT R x)) := fun dx a b c d => ev_callX (ed_cons a (ed_cons b (ed_cons c (ed_cons d ed_nil)))) ⟨_, _, _, _, rfl, .ok hp rT G dx⟩
  refine q_when (b := false) h8 (et_or (a := false) (b := false) (et_eq (et_not (et_B (ans (evd_var rfl) (evd_var rfl) (evd_var rfl) (evd_var rfl)))) (by rw [a1]; rfl)) fun _ => et_eq (et_test (ev_neS (ev_ixT (evd_var rfl) ev_int rfl) (evd_var rfl))) (by rw [decide_eq_true rfl]; rfl)) (fun q => nomatch q) fun _ H9 h9 _ => ?_
  refine q_when (b := false) h9 (et_or (a := false) (b := false) (et_eq (et_test (ev_neI (ev_callX (d := .int (lrank p R : Int)) (ed_cons (evd_var rfl) (ed_cons (evd_var rfl) ed_nil)) ⟨_, _, rfl, .ok hp (head_good G)⟩) (ev_call (ed_cons (evd_var rfl) (ed_cons (evd_var rfl) ed_nil)) ⟨p, TT.length, false, R, Pp, l1, by omega, G.R, rfl, rfl⟩))) (by rw [decide_eq_true rfl]; rfl)) fun _ => et_eq (et_test (ev_notB (isa dom (evd_var rfl) (evd_var rfl) (evd_var rfl) (evd_var rfl)) ev_bl)) (by rw [a1]; rfl)) (fun q => nomatch q) fun _ H10 h10 _ => ?_
  have sr : Src K (SW K A) (iRng1 (tCons (tC (.int 6)) tNil)) [.dat (.list (ns.map .int)), .raw (.ref A.d), .dat (.int p), .dat (.int (TT.length : Int)), .dat (rowsT R), .dat (rowT TT), .dat (ansD p TT R), .dat (.str (if (altL p TT R).1 then "sum" else "apart")), .emp, .emp] _ := src_range (n := 6) (ed_cons ev_int ed_nil) (by decide) (by decide)
  refine q_for h10 (R := fun _ => [.dat (.list (ns.map .int)), .raw (.ref A.d), .dat (.int p), .dat (.int (TT.length : Int)), .dat (rowsT R), .dat (rowT TT), .dat (ansD p TT R), .dat (.str (if (altL p TT R).1 then "sum" else "apart")), .emp, .emp]) (S := fun i => [.dat (.list (ns.map .int)), .raw (.ref A.d), .dat (.int p), .dat (.int (TT.length : Int)), .dat (rowsT R), .dat (rowT TT), .dat (ansD p TT R), .dat (.str (if (altL p TT R).1 then "sum" else "apart")), .dat (.int (i : Nat)), .emp]) (X := fun _ _ => True)
    sr (Le.refl _) (fun _ _ _ => trivial) (fun i d hd => ⟨[8], ?_⟩) (fun Hb i d σ11 H11 hd h11 _ => ?_) (fun σ11 H11 h11 _ => ?_) (fun _ _ _ _ _ z => z)
  · obtain ⟨e, _⟩ := rangeD_get (n := 6) hd
    rw [e]
    exact tg_name
  · refine q_asgN h11 ((en_callU rfl (end_of (ed_cons (evd_var rfl) (ed_cons (evd_var rfl) (ed_cons (ev_lst (ed_cons ev_str (ed_cons ev_str (ed_cons ev_str (ed_cons ev_str ed_nil)))) (by show 4 ≤ 100000; decide)) ed_nil))) (Ψ := (· = [.int p, ansD p TT R, .list [.str "sum", .str "apart", .str "open", .str ""]])) rfl) fun ds q => ⟨p, _, (altL p TT R).2, ["sum", "apart", "open", ""], Pp, a3, by simp, by simp, q⟩).isd (P' := Dom) fun d ⟨ds, q, dx⟩ => dx) fun s12 σ12 H12 p12 h12 => ?_
    obtain ⟨x, rfl, dx⟩ := p12
    dsimp only [List.set] at h12
    refine s_if (b := false) h12 (et_eq (et_not (et_B (ev_call (ed_cons (isa dx (evd_var rfl) (evd_var rfl) (evd_var rfl) (evd_var rfl)) (ed_cons (ans (evd_var rfl) (evd_var rfl) (evd_var rfl) (evd_var rfl)) ed_nil)) ⟨_, _, rfl, rfl⟩))) (by rw [decide_eq_true rfl]; rfl)) (fun q => nomatch q) fun _ H13 h13 _ => ⟨h13.le (.same (.same (.same (.same (.same (.same (.same (.same (.emp (.emp .nil)))))))))), trivial⟩
  · refine s_retN h11 (en_callU rfl (end_of (ed_cons (evd_var rfl) (ed_cons (evd_var rfl) (ed_cons (evd_var rfl) ed_nil))) (Ψ := (· = [.int p, rowT TT, rowsT R])) rfl) fun ds q => ⟨p, TT, R, hp, G, rT, q⟩) fun s v H' p' a o => ?_
    obtain ⟨d, rfl, ds, _, rfl⟩ := p'
    cases o
    rfl
end
end Sc

/-! the text as it stands behind the top. -/
namespace Sc
open PySem L2 Fw
open PyProof.Rows
@[reducible] def txt_mk {K : PySem.W.Frag} {h : Heap} {mg : Str → Option Value} (X : K.In h) (G : h.Ns mainGlobals mg)
    {ais_whole : Addr} {odis_whole anis_whole : Option Addr} {slis_whole : Array (Option Value)} {ocis_whole kVis_whole dcis_whole pmis_whole cdis_whole ctis_whole : Value}
    {ais_prime : Addr} {odis_prime anis_prime : Option Addr} {slis_prime : Array (Option Value)} {ocis_prime kVis_prime dcis_prime pmis_prime cdis_prime ctis_prime : Value}
    {ais_residue : Addr} {odis_residue anis_residue : Option Addr} {slis_residue : Array (Option Value)} {ocis_residue kVis_residue dcis_residue pmis_residue cdis_residue ctis_residue : Value}
    {ais_row : Addr} {odis_row anis_row : Option Addr} {slis_row : Array (Option Value)} {ocis_row kVis_row dcis_row pmis_row cdis_row ctis_row : Value}
    {aproduct : Addr} {odproduct anproduct : Option Addr} {slproduct : Array (Option Value)} {ocproduct kVproduct dcproduct pmproduct cdproduct ctproduct : Value}
    {acombination : Addr} {odcombination ancombination : Option Addr} {slcombination : Array (Option Value)} {occombination kVcombination dccombination pmcombination cdcombination ctcombination : Value}
    {aadded : Addr} {odadded anadded : Option Addr} {sladded : Array (Option Value)} {ocadded kVadded dcadded pmadded cdadded ctadded : Value}
    {ainverse : Addr} {odinverse aninverse : Option Addr} {slinverse : Array (Option Value)} {ocinverse kVinverse dcinverse pminverse cdinverse ctinverse : Value}
    {afirst_place : Addr} {odfirst_place anfirst_place : Option Addr} {slfirst_place : Array (Option Value)} {ocfirst_place kVfirst_place dcfirst_place pmfirst_place cdfirst_place ctfirst_place : Value}
    {aBasis___init__ : Addr} {odBasis___init__ anBasis___init__ : Option Addr} {slBasis___init__ : Array (Option Value)} {ocBasis___init__ kVBasis___init__ dcBasis___init__ pmBasis___init__ cdBasis___init__ ctBasis___init__ : Value}
    {aBasis_reduced : Addr} {odBasis_reduced anBasis_reduced : Option Addr} {slBasis_reduced : Array (Option Value)} {ocBasis_reduced kVBasis_reduced dcBasis_reduced pmBasis_reduced cdBasis_reduced ctBasis_reduced : Value}
    {aBasis_take : Addr} {odBasis_take anBasis_take : Option Addr} {slBasis_take : Array (Option Value)} {ocBasis_take kVBasis_take dcBasis_take pmBasis_take cdBasis_take ctBasis_take : Value}
    {aBasis_apart : Addr} {odBasis_apart anBasis_apart : Option Addr} {slBasis_apart : Array (Option Value)} {ocBasis_apart kVBasis_apart dcBasis_apart pmBasis_apart cdBasis_apart ctBasis_apart : Value}
    {ais_rows : Addr} {odis_rows anis_rows : Option Addr} {slis_rows : Array (Option Value)} {ocis_rows kVis_rows dcis_rows pmis_rows cdis_rows ctis_rows : Value}
    {arank : Addr} {odrank anrank : Option Addr} {slrank : Array (Option Value)} {ocrank kVrank dcrank pmrank cdrank ctrank : Value}
    {acheck_target : Addr} {odcheck_target ancheck_target : Option Addr} {slcheck_target : Array (Option Value)} {occheck_target kVcheck_target dccheck_target pmcheck_target cdcheck_target ctcheck_target : Value}
    {aalternative : Addr} {odalternative analternative : Option Addr} {slalternative : Array (Option Value)} {ocalternative kValternative dcalternative pmalternative cdalternative ctalternative : Value}
    {ais_alternative : Addr} {odis_alternative anis_alternative : Option Addr} {slis_alternative : Array (Option Value)} {ocis_alternative kVis_alternative dcis_alternative pmis_alternative cdis_alternative ctis_alternative : Value}
    {a_law_se_begin : Addr} {od_law_se_begin an_law_se_begin : Option Addr} {sl_law_se_begin : Array (Option Value)} {oc_law_se_begin kV_law_se_begin dc_law_se_begin pm_law_se_begin cd_law_se_begin ct_law_se_begin : Value}
    {a_law_se_take : Addr} {od_law_se_take an_law_se_take : Option Addr} {sl_law_se_take : Array (Option Value)} {oc_law_se_take kV_law_se_take dc_law_se_take pm_law_se_take cd_law_se_take ct_law_se_take : Value}
    {a_law_se_primes : Addr} {od_law_se_primes an_law_se_primes : Option Addr} {sl_law_se_primes : Array (Option Value)} {oc_law_se_primes kV_law_se_primes dc_law_se_primes pm_law_se_primes cd_law_se_primes ct_law_se_primes : Value}
    {a_law_se_is_whole : Addr} {od_law_se_is_whole an_law_se_is_whole : Option Addr} {sl_law_se_is_whole : Array (Option Value)} {oc_law_se_is_whole kV_law_se_is_whole dc_law_se_is_whole pm_law_se_is_whole cd_law_se_is_whole ct_law_se_is_whole : Value}
    {a_law_se_is_row : Addr} {od_law_se_is_row an_law_se_is_row : Option Addr} {sl_law_se_is_row : Array (Option Value)} {oc_law_se_is_row kV_law_se_is_row dc_law_se_is_row pm_law_se_is_row cd_law_se_is_row ct_law_se_is_row : Value}
    {a_law_se_row : Addr} {od_law_se_row an_law_se_row : Option Addr} {sl_law_se_row : Array (Option Value)} {oc_law_se_row kV_law_se_row dc_law_se_row pm_law_se_row cd_law_se_row ct_law_se_row : Value}
    {a_law_se_dot : Addr} {od_law_se_dot an_law_se_dot : Option Addr} {sl_law_se_dot : Array (Option Value)} {oc_law_se_dot kV_law_se_dot dc_law_se_dot pm_law_se_dot cd_law_se_dot ct_law_se_dot : Value}
    {a_law_se_mixed : Addr} {od_law_se_mixed an_law_se_mixed : Option Addr} {sl_law_se_mixed : Array (Option Value)} {oc_law_se_mixed kV_law_se_mixed dc_law_se_mixed pm_law_se_mixed cd_law_se_mixed ct_law_se_mixed : Value}
    {a_law_se_rank : Addr} {od_law_se_rank an_law_se_rank : Option Addr} {sl_law_se_rank : Array (Option Value)} {oc_law_se_rank kV_law_se_rank dc_law_se_rank pm_law_se_rank cd_law_se_rank ct_law_se_rank : Value}
    {a_law_se_is_in : Addr} {od_law_se_is_in an_law_se_is_in : Option Addr} {sl_law_se_is_in : Array (Option Value)} {oc_law_se_is_in kV_law_se_is_in dc_law_se_is_in pm_law_se_is_in cd_law_se_is_in ct_law_se_is_in : Value}
    {a_law_se_is_pair : Addr} {od_law_se_is_pair an_law_se_is_pair : Option Addr} {sl_law_se_is_pair : Array (Option Value)} {oc_law_se_is_pair kV_law_se_is_pair dc_law_se_is_pair pm_law_se_is_pair cd_law_se_is_pair ct_law_se_is_pair : Value}
    {a_law_se_bent : Addr} {od_law_se_bent an_law_se_bent : Option Addr} {sl_law_se_bent : Array (Option Value)} {oc_law_se_bent kV_law_se_bent dc_law_se_bent pm_law_se_bent cd_law_se_bent ct_law_se_bent : Value}
    {a_law_se_says : Addr} {od_law_se_says an_law_se_says : Option Addr} {sl_law_se_says : Array (Option Value)} {oc_law_se_says kV_law_se_says dc_law_se_says pm_law_se_says cd_law_se_says ct_law_se_says : Value}
    {a_law_se_one : Addr} {od_law_se_one an_law_se_one : Option Addr} {sl_law_se_one : Array (Option Value)} {oc_law_se_one kV_law_se_one dc_law_se_one pm_law_se_one cd_law_se_one ct_law_se_one : Value}
    {a_law_rows : Addr} {od_law_rows an_law_rows : Option Addr} {sl_law_rows : Array (Option Value)} {oc_law_rows kV_law_rows dc_law_rows pm_law_rows cd_law_rows ct_law_rows : Value}
    {a_law_target : Addr} {od_law_target an_law_target : Option Addr} {sl_law_target : Array (Option Value)} {oc_law_target kV_law_target dc_law_target pm_law_target cd_law_target ct_law_target : Value}
    {a_law_is_answer : Addr} {od_law_is_answer an_law_is_answer : Option Addr} {sl_law_is_answer : Array (Option Value)} {oc_law_is_answer kV_law_is_answer dc_law_is_answer pm_law_is_answer cd_law_is_answer ct_law_is_answer : Value}
    {a_law_marks : Addr} {od_law_marks an_law_marks : Option Addr} {sl_law_marks : Array (Option Value)} {oc_law_marks kV_law_marks dc_law_marks pm_law_marks cd_law_marks ct_law_marks : Value}
    {a_law_errors_right : Addr} {od_law_errors_right an_law_errors_right : Option Addr} {sl_law_errors_right : Array (Option Value)} {oc_law_errors_right kV_law_errors_right dc_law_errors_right pm_law_errors_right cd_law_errors_right ct_law_errors_right : Value}
    {alaw : Addr} {odlaw anlaw : Option Addr} {sllaw : Array (Option Value)} {oclaw kVlaw dclaw pmlaw cdlaw ctlaw : Value}
    {cBasis : Addr} (q_Basis : PySem.W.nsIn K mainGlobals "Basis" = some (some (.ref cBasis))) (pg_Basis : PySem.W.plainGet K cBasis Str.empty = true) (hd_Basis : PySem.W.hasDictIn K cBasis = true) (po_Basis : PySem.W.plainOver K cBasis = true) (sa_Basis : PySem.W.findIn K (.ref cBasis) "__setattr__" = some (some (.builtin "object.__setattr__"))) (mk_Basis : PySem.W.makesIn K cBasis = true) (kc_Basis : PySem.W.keepIn K (.ref cBasis) = true)
    (no_Basis_prime : PySem.W.findIn K (.ref cBasis) "prime" = some none) (no_Basis_pivots : PySem.W.findIn K (.ref cBasis) "pivots" = some none) (no_Basis_rows : PySem.W.findIn K (.ref cBasis) "rows" = some none) (no_Basis_made : PySem.W.findIn K (.ref cBasis) "made" = some none) (no_Basis_relations : PySem.W.findIn K (.ref cBasis) "relations" = some none)
    {cTenderError : Addr} (q_TenderError : PySem.W.nsIn K mainGlobals "TenderError" = some (some (.ref cTenderError))) (x_TenderError : PySem.W.excIn K cTenderError [.type "ValueError", .type "Exception", .type "BaseException", .type "object"] "ValueError.__new__" = true) (k_TenderError : PySem.W.keepIn K (.ref cTenderError) = true) (b_TenderError : PySem.W.subIn K (.ref cTenderError) (.type "BaseException") = some true) (t_TenderError : PySem.W.typeIn K (.ref cTenderError) = some (.type "type")) (i_TenderError : PySem.W.isClsIn K cTenderError = true)
    (hg_TenderError : PySem.W.findIn K (.ref cTenderError) "__getattribute__" = some (some (.builtin "BaseException.__getattribute__"))) (hk_TenderError : PySem.W.findIn K (.ref cTenderError) "__getattr__" = some none) (hd_TenderError : PySem.W.hasDictIn K cTenderError = true) (ha_TenderError : PySem.W.findIn K (.ref cTenderError) "__class__" = some (some (.builtin "object.__class__"))) (hm_TenderError : PySem.W.mroIn K cTenderError (.type "object") = some true)
    {cBadPrime : Addr} (q_BadPrime : PySem.W.nsIn K mainGlobals "BadPrime" = some (some (.ref cBadPrime))) (x_BadPrime : PySem.W.excIn K cBadPrime [.type "ValueError", .type "Exception", .type "BaseException", .type "object"] "ValueError.__new__" = true) (k_BadPrime : PySem.W.keepIn K (.ref cBadPrime) = true) (b_BadPrime : PySem.W.subIn K (.ref cBadPrime) (.type "BaseException") = some true) (t_BadPrime : PySem.W.typeIn K (.ref cBadPrime) = some (.type "type")) (i_BadPrime : PySem.W.isClsIn K cBadPrime = true)
    (hg_BadPrime : PySem.W.findIn K (.ref cBadPrime) "__getattribute__" = some (some (.builtin "BaseException.__getattribute__"))) (hk_BadPrime : PySem.W.findIn K (.ref cBadPrime) "__getattr__" = some none) (hd_BadPrime : PySem.W.hasDictIn K cBadPrime = true) (ha_BadPrime : PySem.W.findIn K (.ref cBadPrime) "__class__" = some (some (.builtin "object.__class__"))) (hm_BadPrime : PySem.W.mroIn K cBadPrime (.type "object") = some true)
    {cBadRows : Addr} (q_BadRows : PySem.W.nsIn K mainGlobals "BadRows" = some (some (.ref cBadRows))) (x_BadRows : PySem.W.excIn K cBadRows [.type "ValueError", .type "Exception", .type "BaseException", .type "object"] "ValueError.__new__" = true) (k_BadRows : PySem.W.keepIn K (.ref cBadRows) = true) (b_BadRows : PySem.W.subIn K (.ref cBadRows) (.type "BaseException") = some true) (t_BadRows : PySem.W.typeIn K (.ref cBadRows) = some (.type "type")) (i_BadRows : PySem.W.isClsIn K cBadRows = true)
    (hg_BadRows : PySem.W.findIn K (.ref cBadRows) "__getattribute__" = some (some (.builtin "BaseException.__getattribute__"))) (hk_BadRows : PySem.W.findIn K (.ref cBadRows) "__getattr__" = some none) (hd_BadRows : PySem.W.hasDictIn K cBadRows = true) (ha_BadRows : PySem.W.findIn K (.ref cBadRows) "__class__" = some (some (.builtin "object.__class__"))) (hm_BadRows : PySem.W.mroIn K cBadRows (.type "object") = some true)
    {cBadTarget : Addr} (q_BadTarget : PySem.W.nsIn K mainGlobals "BadTarget" = some (some (.ref cBadTarget))) (x_BadTarget : PySem.W.excIn K cBadTarget [.type "ValueError", .type "Exception", .type "BaseException", .type "object"] "ValueError.__new__" = true) (k_BadTarget : PySem.W.keepIn K (.ref cBadTarget) = true) (b_BadTarget : PySem.W.subIn K (.ref cBadTarget) (.type "BaseException") = some true) (t_BadTarget : PySem.W.typeIn K (.ref cBadTarget) = some (.type "type")) (i_BadTarget : PySem.W.isClsIn K cBadTarget = true)
    (hg_BadTarget : PySem.W.findIn K (.ref cBadTarget) "__getattribute__" = some (some (.builtin "BaseException.__getattribute__"))) (hk_BadTarget : PySem.W.findIn K (.ref cBadTarget) "__getattr__" = some none) (hd_BadTarget : PySem.W.hasDictIn K cBadTarget = true) (ha_BadTarget : PySem.W.findIn K (.ref cBadTarget) "__class__" = some (some (.builtin "object.__class__"))) (hm_BadTarget : PySem.W.mroIn K cBadTarget (.type "object") = some true)
    (hn_x : PySem.W.specialIn K (.builtin "object.__class__") "__get__" = some (some (.builtin "getset_descriptor.__get__"))) (ht_x : PySem.W.takesIn K (.builtin "object.__class__") = some true)
    (su_BadPrime_TenderError : PySem.W.subIn K (.ref cBadPrime) (.ref cTenderError) = some true)
    (su_BadRows_TenderError : PySem.W.subIn K (.ref cBadRows) (.ref cTenderError) = some true)
    (su_BadTarget_TenderError : PySem.W.subIn K (.ref cBadTarget) (.ref cTenderError) = some true)
    (su_BadPrime_BadPrime : PySem.W.subIn K (.ref cBadPrime) (.ref cBadPrime) = some true)
    (su_BadPrime_BadRows : PySem.W.subIn K (.ref cBadPrime) (.ref cBadRows) = some false)
    (su_BadPrime_BadTarget : PySem.W.subIn K (.ref cBadPrime) (.ref cBadTarget) = some false)
    (su_BadRows_BadPrime : PySem.W.subIn K (.ref cBadRows) (.ref cBadPrime) = some false)
    (su_BadRows_BadRows : PySem.W.subIn K (.ref cBadRows) (.ref cBadRows) = some true)
    (su_BadRows_BadTarget : PySem.W.subIn K (.ref cBadRows) (.ref cBadTarget) = some false)
    (su_BadTarget_BadPrime : PySem.W.subIn K (.ref cBadTarget) (.ref cBadPrime) = some false)
    (su_BadTarget_BadRows : PySem.W.subIn K (.ref cBadTarget) (.ref cBadRows) = some false)
    (su_BadTarget_BadTarget : PySem.W.subIn K (.ref cBadTarget) (.ref cBadTarget) = some true)
    (a_is_whole : PySem.W.nsIn K mainGlobals "is_whole" = some (some (.ref ais_whole))) (l_is_whole : K.lookup ais_whole = some ⟨ocis_whole, odis_whole, .func (PySem.W.fnOf "is_whole" "is_whole" (defArgs sis_whole) (defBody sis_whole) (defScope sis_whole) .none kVis_whole dcis_whole pmis_whole anis_whole cdis_whole ctis_whole), slis_whole⟩) (c_is_whole : PySem.W.codeIn K cdis_whole "is_whole" = true) (k_is_whole : PySem.W.keepIn K (.ref ais_whole) = true)
    (a_is_prime : PySem.W.nsIn K mainGlobals "is_prime" = some (some (.ref ais_prime))) (l_is_prime : K.lookup ais_prime = some ⟨ocis_prime, odis_prime, .func (PySem.W.fnOf "is_prime" "is_prime" (defArgs sis_prime) (defBody sis_prime) (defScope sis_prime) .none kVis_prime dcis_prime pmis_prime anis_prime cdis_prime ctis_prime), slis_prime⟩) (c_is_prime : PySem.W.codeIn K cdis_prime "is_prime" = true) (k_is_prime : PySem.W.keepIn K (.ref ais_prime) = true)
    (a_is_residue : PySem.W.nsIn K mainGlobals "is_residue" = some (some (.ref ais_residue))) (l_is_residue : K.lookup ais_residue = some ⟨ocis_residue, odis_residue, .func (PySem.W.fnOf "is_residue" "is_residue" (defArgs sis_residue) (defBody sis_residue) (defScope sis_residue) .none kVis_residue dcis_residue pmis_residue anis_residue cdis_residue ctis_residue), slis_residue⟩) (c_is_residue : PySem.W.codeIn K cdis_residue "is_residue" = true) (k_is_residue : PySem.W.keepIn K (.ref ais_residue) = true)
    (a_is_row : PySem.W.nsIn K mainGlobals "is_row" = some (some (.ref ais_row))) (l_is_row : K.lookup ais_row = some ⟨ocis_row, odis_row, .func (PySem.W.fnOf "is_row" "is_row" (defArgs sis_row) (defBody sis_row) (defScope sis_row) .none kVis_row dcis_row pmis_row anis_row cdis_row ctis_row), slis_row⟩) (c_is_row : PySem.W.codeIn K cdis_row "is_row" = true) (k_is_row : PySem.W.keepIn K (.ref ais_row) = true)
    (a_product : PySem.W.nsIn K mainGlobals "product" = some (some (.ref aproduct))) (l_product : K.lookup aproduct = some ⟨ocproduct, odproduct, .func (PySem.W.fnOf "product" "product" (defArgs sproduct) (defBody sproduct) (defScope sproduct) .none kVproduct dcproduct pmproduct anproduct cdproduct ctproduct), slproduct⟩) (c_product : PySem.W.codeIn K cdproduct "product" = true) (k_product : PySem.W.keepIn K (.ref aproduct) = true)
    (a_combination : PySem.W.nsIn K mainGlobals "combination" = some (some (.ref acombination))) (l_combination : K.lookup acombination = some ⟨occombination, odcombination, .func (PySem.W.fnOf "combination" "combination" (defArgs scombination) (defBody scombination) (defScope scombination) .none kVcombination dccombination pmcombination ancombination cdcombination ctcombination), slcombination⟩) (c_combination : PySem.W.codeIn K cdcombination "combination" = true) (k_combination : PySem.W.keepIn K (.ref acombination) = true)
    (a_added : PySem.W.nsIn K mainGlobals "added" = some (some (.ref aadded))) (l_added : K.lookup aadded = some ⟨ocadded, odadded, .func (PySem.W.fnOf "added" "added" (defArgs sadded) (defBody sadded) (defScope sadded) .none kVadded dcadded pmadded anadded cdadded ctadded), sladded⟩) (c_added : PySem.W.codeIn K cdadded "added" = true) (k_added : PySem.W.keepIn K (.ref aadded) = true)
    (a_inverse : PySem.W.nsIn K mainGlobals "inverse" = some (some (.ref ainverse))) (l_inverse : K.lookup ainverse = some ⟨ocinverse, odinverse, .func (PySem.W.fnOf "inverse" "inverse" (defArgs sinverse) (defBody sinverse) (defScope sinverse) .none kVinverse dcinverse pminverse aninverse cdinverse ctinverse), slinverse⟩) (c_inverse : PySem.W.codeIn K cdinverse "inverse" = true) (k_inverse : PySem.W.keepIn K (.ref ainverse) = true)
    (a_first_place : PySem.W.nsIn K mainGlobals "first_place" = some (some (.ref afirst_place))) (l_first_place : K.lookup afirst_place = some ⟨ocfirst_place, odfirst_place, .func (PySem.W.fnOf "first_place" "first_place" (defArgs sfirst_place) (defBody sfirst_place) (defScope sfirst_place) .none kVfirst_place dcfirst_place pmfirst_place anfirst_place cdfirst_place ctfirst_place), slfirst_place⟩) (c_first_place : PySem.W.codeIn K cdfirst_place "first_place" = true) (k_first_place : PySem.W.keepIn K (.ref afirst_place) = true)
    (a_Basis___init__ : PySem.W.findIn K (.ref cBasis) "__init__" = some (some (.ref aBasis___init__))) (f_Basis___init__ : PySem.W.isFn K (.ref aBasis___init__) = true) (l_Basis___init__ : K.lookup aBasis___init__ = some ⟨ocBasis___init__, odBasis___init__, .func (PySem.W.fnOf "__init__" "Basis.__init__" (defArgs sBasis___init__) (defBody sBasis___init__) (defScope sBasis___init__) .none kVBasis___init__ dcBasis___init__ pmBasis___init__ anBasis___init__ cdBasis___init__ ctBasis___init__), slBasis___init__⟩) (c_Basis___init__ : PySem.W.codeIn K cdBasis___init__ "Basis.__init__" = true) (k_Basis___init__ : PySem.W.keepIn K (.ref aBasis___init__) = true)
    (a_Basis_reduced : PySem.W.findIn K (.ref cBasis) "reduced" = some (some (.ref aBasis_reduced))) (f_Basis_reduced : PySem.W.isFn K (.ref aBasis_reduced) = true) (l_Basis_reduced : K.lookup aBasis_reduced = some ⟨ocBasis_reduced, odBasis_reduced, .func (PySem.W.fnOf "reduced" "Basis.reduced" (defArgs sBasis_reduced) (defBody sBasis_reduced) (defScope sBasis_reduced) .none kVBasis_reduced dcBasis_reduced pmBasis_reduced anBasis_reduced cdBasis_reduced ctBasis_reduced), slBasis_reduced⟩) (c_Basis_reduced : PySem.W.codeIn K cdBasis_reduced "Basis.reduced" = true) (k_Basis_reduced : PySem.W.keepIn K (.ref aBasis_reduced) = true)
    (a_Basis_take : PySem.W.findIn K (.ref cBasis) "take" = some (some (.ref aBasis_take))) (f_Basis_take : PySem.W.isFn K (.ref aBasis_take) = true) (l_Basis_take : K.lookup aBasis_take = some ⟨ocBasis_take, odBasis_take, .func (PySem.W.fnOf "take" "Basis.take" (defArgs sBasis_take) (defBody sBasis_take) (defScope sBasis_take) .none kVBasis_take dcBasis_take pmBasis_take anBasis_take cdBasis_take ctBasis_take), slBasis_take⟩) (c_Basis_take : PySem.W.codeIn K cdBasis_take "Basis.take" = true) (k_Basis_take : PySem.W.keepIn K (.ref aBasis_take) = true)
    (a_Basis_apart : PySem.W.findIn K (.ref cBasis) "apart" = some (some (.ref aBasis_apart))) (f_Basis_apart : PySem.W.isFn K (.ref aBasis_apart) = true) (l_Basis_apart : K.lookup aBasis_apart = some ⟨ocBasis_apart, odBasis_apart, .func (PySem.W.fnOf "apart" "Basis.apart" (defArgs sBasis_apart) (defBody sBasis_apart) (defScope sBasis_apart) .none kVBasis_apart dcBasis_apart pmBasis_apart anBasis_apart cdBasis_apart ctBasis_apart), slBasis_apart⟩) (c_Basis_apart : PySem.W.codeIn K cdBasis_apart "Basis.apart" = true) (k_Basis_apart : PySem.W.keepIn K (.ref aBasis_apart) = true)
    (a_is_rows : PySem.W.nsIn K mainGlobals "is_rows" = some (some (.ref ais_rows))) (l_is_rows : K.lookup ais_rows = some ⟨ocis_rows, odis_rows, .func (PySem.W.fnOf "is_rows" "is_rows" (defArgs sis_rows) (defBody sis_rows) (defScope sis_rows) .none kVis_rows dcis_rows pmis_rows anis_rows cdis_rows ctis_rows), slis_rows⟩) (c_is_rows : PySem.W.codeIn K cdis_rows "is_rows" = true) (k_is_rows : PySem.W.keepIn K (.ref ais_rows) = true)
    (a_rank : PySem.W.nsIn K mainGlobals "rank" = some (some (.ref arank))) (l_rank : K.lookup arank = some ⟨ocrank, odrank, .func (PySem.W.fnOf "rank" "rank" (defArgs srank) (defBody srank) (defScope srank) .none kVrank dcrank pmrank anrank cdrank ctrank), slrank⟩) (c_rank : PySem.W.codeIn K cdrank "rank" = true) (k_rank : PySem.W.keepIn K (.ref arank) = true)
    (a_check_target : PySem.W.nsIn K mainGlobals "check_target" = some (some (.ref acheck_target))) (l_check_target : K.lookup acheck_target = some ⟨occheck_target, odcheck_target, .func (PySem.W.fnOf "check_target" "check_target" (defArgs scheck_target) (defBody scheck_target) (defScope scheck_target) .none kVcheck_target dccheck_target pmcheck_target ancheck_target cdcheck_target ctcheck_target), slcheck_target⟩) (c_check_target : PySem.W.codeIn K cdcheck_target "check_target" = true) (k_check_target : PySem.W.keepIn K (.ref acheck_target) = true)
    (a_alternative : PySem.W.nsIn K mainGlobals "alternative" = some (some (.ref aalternative))) (l_alternative : K.lookup aalternative = some ⟨ocalternative, odalternative, .func (PySem.W.fnOf "alternative" "alternative" (defArgs salternative) (defBody salternative) (defScope salternative) .none kValternative dcalternative pmalternative analternative cdalternative ctalternative), slalternative⟩) (c_alternative : PySem.W.codeIn K cdalternative "alternative" = true) (k_alternative : PySem.W.keepIn K (.ref aalternative) = true)
    (a_is_alternative : PySem.W.nsIn K mainGlobals "is_alternative" = some (some (.ref ais_alternative))) (l_is_alternative : K.lookup ais_alternative = some ⟨ocis_alternative, odis_alternative, .func (PySem.W.fnOf "is_alternative" "is_alternative" (defArgs sis_alternative) (defBody sis_alternative) (defScope sis_alternative) .none kVis_alternative dcis_alternative pmis_alternative anis_alternative cdis_alternative ctis_alternative), slis_alternative⟩) (c_is_alternative : PySem.W.codeIn K cdis_alternative "is_alternative" = true) (k_is_alternative : PySem.W.keepIn K (.ref ais_alternative) = true)
    (a__law_se_begin : PySem.W.nsIn K mainGlobals "_law_se_begin" = some (some (.ref a_law_se_begin))) (l__law_se_begin : K.lookup a_law_se_begin = some ⟨oc_law_se_begin, od_law_se_begin, .func (PySem.W.fnOf "_law_se_begin" "_law_se_begin" (defArgs s_law_se_begin) (defBody s_law_se_begin) (defScope s_law_se_begin) .none kV_law_se_begin dc_law_se_begin pm_law_se_begin an_law_se_begin cd_law_se_begin ct_law_se_begin), sl_law_se_begin⟩) (c__law_se_begin : PySem.W.codeIn K cd_law_se_begin "_law_se_begin" = true) (k__law_se_begin : PySem.W.keepIn K (.ref a_law_se_begin) = true)
    (a__law_se_take : PySem.W.nsIn K mainGlobals "_law_se_take" = some (some (.ref a_law_se_take))) (l__law_se_take : K.lookup a_law_se_take = some ⟨oc_law_se_take, od_law_se_take, .func (PySem.W.fnOf "_law_se_take" "_law_se_take" (defArgs s_law_se_take) (defBody s_law_se_take) (defScope s_law_se_take) .none kV_law_se_take dc_law_se_take pm_law_se_take an_law_se_take cd_law_se_take ct_law_se_take), sl_law_se_take⟩) (c__law_se_take : PySem.W.codeIn K cd_law_se_take "_law_se_take" = true) (k__law_se_take : PySem.W.keepIn K (.ref a_law_se_take) = true)
    (a__law_se_primes : PySem.W.nsIn K mainGlobals "_law_se_primes" = some (some (.ref a_law_se_primes))) (l__law_se_primes : K.lookup a_law_se_primes = some ⟨oc_law_se_primes, od_law_se_primes, .func (PySem.W.fnOf "_law_se_primes" "_law_se_primes" (defArgs s_law_se_primes) (defBody s_law_se_primes) (defScope s_law_se_primes) .none kV_law_se_primes dc_law_se_primes pm_law_se_primes an_law_se_primes cd_law_se_primes ct_law_se_primes), sl_law_se_primes⟩) (c__law_se_primes : PySem.W.codeIn K cd_law_se_primes "_law_se_primes" = true) (k__law_se_primes : PySem.W.keepIn K (.ref a_law_se_primes) = true)
    (a__law_se_is_whole : PySem.W.nsIn K mainGlobals "_law_se_is_whole" = some (some (.ref a_law_se_is_whole))) (l__law_se_is_whole : K.lookup a_law_se_is_whole = some ⟨oc_law_se_is_whole, od_law_se_is_whole, .func (PySem.W.fnOf "_law_se_is_whole" "_law_se_is_whole" (defArgs s_law_se_is_whole) (defBody s_law_se_is_whole) (defScope s_law_se_is_whole) .none kV_law_se_is_whole dc_law_se_is_whole pm_law_se_is_whole an_law_se_is_whole cd_law_se_is_whole ct_law_se_is_whole), sl_law_se_is_whole⟩) (c__law_se_is_whole : PySem.W.codeIn K cd_law_se_is_whole "_law_se_is_whole" = true) (k__law_se_is_whole : PySem.W.keepIn K (.ref a_law_se_is_whole) = true)
    (a__law_se_is_row : PySem.W.nsIn K mainGlobals "_law_se_is_row" = some (some (.ref a_law_se_is_row))) (l__law_se_is_row : K.lookup a_law_se_is_row = some ⟨oc_law_se_is_row, od_law_se_is_row, .func (PySem.W.fnOf "_law_se_is_row" "_law_se_is_row" (defArgs s_law_se_is_row) (defBody s_law_se_is_row) (defScope s_law_se_is_row) .none kV_law_se_is_row dc_law_se_is_row pm_law_se_is_row an_law_se_is_row cd_law_se_is_row ct_law_se_is_row), sl_law_se_is_row⟩) (c__law_se_is_row : PySem.W.codeIn K cd_law_se_is_row "_law_se_is_row" = true) (k__law_se_is_row : PySem.W.keepIn K (.ref a_law_se_is_row) = true)
    (a__law_se_row : PySem.W.nsIn K mainGlobals "_law_se_row" = some (some (.ref a_law_se_row))) (l__law_se_row : K.lookup a_law_se_row = some ⟨oc_law_se_row, od_law_se_row, .func (PySem.W.fnOf "_law_se_row" "_law_se_row" (defArgs s_law_se_row) (defBody s_law_se_row) (defScope s_law_se_row) .none kV_law_se_row dc_law_se_row pm_law_se_row an_law_se_row cd_law_se_row ct_law_se_row), sl_law_se_row⟩) (c__law_se_row : PySem.W.codeIn K cd_law_se_row "_law_se_row" = true) (k__law_se_row : PySem.W.keepIn K (.ref a_law_se_row) = true)
    (a__law_se_dot : PySem.W.nsIn K mainGlobals "_law_se_dot" = some (some (.ref a_law_se_dot))) (l__law_se_dot : K.lookup a_law_se_dot = some ⟨oc_law_se_dot, od_law_se_dot, .func (PySem.W.fnOf "_law_se_dot" "_law_se_dot" (defArgs s_law_se_dot) (defBody s_law_se_dot) (defScope s_law_se_dot) .none kV_law_se_dot dc_law_se_dot pm_law_se_dot an_law_se_dot cd_law_se_dot ct_law_se_dot), sl_law_se_dot⟩) (c__law_se_dot : PySem.W.codeIn K cd_law_se_dot "_law_se_dot" = true) (k__law_se_dot : PySem.W.keepIn K (.ref a_law_se_dot) = true)
    (a__law_se_mixed : PySem.W.nsIn K mainGlobals "_law_se_mixed" = some (some (.ref a_law_se_mixed))) (l__law_se_mixed : K.lookup a_law_se_mixed = some ⟨oc_law_se_mixed, od_law_se_mixed, .func (PySem.W.fnOf "_law_se_mixed" "_law_se_mixed" (defArgs s_law_se_mixed) (defBody s_law_se_mixed) (defScope s_law_se_mixed) .none kV_law_se_mixed dc_law_se_mixed pm_law_se_mixed an_law_se_mixed cd_law_se_mixed ct_law_se_mixed), sl_law_se_mixed⟩) (c__law_se_mixed : PySem.W.codeIn K cd_law_se_mixed "_law_se_mixed" = true) (k__law_se_mixed : PySem.W.keepIn K (.ref a_law_se_mixed) = true)
    (a__law_se_rank : PySem.W.nsIn K mainGlobals "_law_se_rank" = some (some (.ref a_law_se_rank))) (l__law_se_rank : K.lookup a_law_se_rank = some ⟨oc_law_se_rank, od_law_se_rank, .func (PySem.W.fnOf "_law_se_rank" "_law_se_rank" (defArgs s_law_se_rank) (defBody s_law_se_rank) (defScope s_law_se_rank) .none kV_law_se_rank dc_law_se_rank pm_law_se_rank an_law_se_rank cd_law_se_rank ct_law_se_rank), sl_law_se_rank⟩) (c__law_se_rank : PySem.W.codeIn K cd_law_se_rank "_law_se_rank" = true) (k__law_se_rank : PySem.W.keepIn K (.ref a_law_se_rank) = true)
    (a__law_se_is_in : PySem.W.nsIn K mainGlobals "_law_se_is_in" = some (some (.ref a_law_se_is_in))) (l__law_se_is_in : K.lookup a_law_se_is_in = some ⟨oc_law_se_is_in, od_law_se_is_in, .func (PySem.W.fnOf "_law_se_is_in" "_law_se_is_in" (defArgs s_law_se_is_in) (defBody s_law_se_is_in) (defScope s_law_se_is_in) .none kV_law_se_is_in dc_law_se_is_in pm_law_se_is_in an_law_se_is_in cd_law_se_is_in ct_law_se_is_in), sl_law_se_is_in⟩) (c__law_se_is_in : PySem.W.codeIn K cd_law_se_is_in "_law_se_is_in" = true) (k__law_se_is_in : PySem.W.keepIn K (.ref a_law_se_is_in) = true)
    (a__law_se_is_pair : PySem.W.nsIn K mainGlobals "_law_se_is_pair" = some (some (.ref a_law_se_is_pair))) (l__law_se_is_pair : K.lookup a_law_se_is_pair = some ⟨oc_law_se_is_pair, od_law_se_is_pair, .func (PySem.W.fnOf "_law_se_is_pair" "_law_se_is_pair" (defArgs s_law_se_is_pair) (defBody s_law_se_is_pair) (defScope s_law_se_is_pair) .none kV_law_se_is_pair dc_law_se_is_pair pm_law_se_is_pair an_law_se_is_pair cd_law_se_is_pair ct_law_se_is_pair), sl_law_se_is_pair⟩) (c__law_se_is_pair : PySem.W.codeIn K cd_law_se_is_pair "_law_se_is_pair" = true) (k__law_se_is_pair : PySem.W.keepIn K (.ref a_law_se_is_pair) = true)
    (a__law_se_bent : PySem.W.nsIn K mainGlobals "_law_se_bent" = some (some (.ref a_law_se_bent))) (l__law_se_bent : K.lookup a_law_se_bent = some ⟨oc_law_se_bent, od_law_se_bent, .func (PySem.W.fnOf "_law_se_bent" "_law_se_bent" (defArgs s_law_se_bent) (defBody s_law_se_bent) (defScope s_law_se_bent) .none kV_law_se_bent dc_law_se_bent pm_law_se_bent an_law_se_bent cd_law_se_bent ct_law_se_bent), sl_law_se_bent⟩) (c__law_se_bent : PySem.W.codeIn K cd_law_se_bent "_law_se_bent" = true) (k__law_se_bent : PySem.W.keepIn K (.ref a_law_se_bent) = true)
    (a__law_se_says : PySem.W.nsIn K mainGlobals "_law_se_says" = some (some (.ref a_law_se_says))) (l__law_se_says : K.lookup a_law_se_says = some ⟨oc_law_se_says, od_law_se_says, .func (PySem.W.fnOf "_law_se_says" "_law_se_says" (defArgs s_law_se_says) (defBody s_law_se_says) (defScope s_law_se_says) .none kV_law_se_says dc_law_se_says pm_law_se_says an_law_se_says cd_law_se_says ct_law_se_says), sl_law_se_says⟩) (c__law_se_says : PySem.W.codeIn K cd_law_se_says "_law_se_says" = true) (k__law_se_says : PySem.W.keepIn K (.ref a_law_se_says) = true)
    (a__law_se_one : PySem.W.nsIn K mainGlobals "_law_se_one" = some (some (.ref a_law_se_one))) (l__law_se_one : K.lookup a_law_se_one = some ⟨oc_law_se_one, od_law_se_one, .func (PySem.W.fnOf "_law_se_one" "_law_se_one" (defArgs s_law_se_one) (defBody s_law_se_one) (defScope s_law_se_one) .none kV_law_se_one dc_law_se_one pm_law_se_one an_law_se_one cd_law_se_one ct_law_se_one), sl_law_se_one⟩) (c__law_se_one : PySem.W.codeIn K cd_law_se_one "_law_se_one" = true) (k__law_se_one : PySem.W.keepIn K (.ref a_law_se_one) = true)
    (a__law_rows : PySem.W.nsIn K mainGlobals "_law_rows" = some (some (.ref a_law_rows))) (l__law_rows : K.lookup a_law_rows = some ⟨oc_law_rows, od_law_rows, .func (PySem.W.fnOf "_law_rows" "_law_rows" (defArgs s_law_rows) (defBody s_law_rows) (defScope s_law_rows) .none kV_law_rows dc_law_rows pm_law_rows an_law_rows cd_law_rows ct_law_rows), sl_law_rows⟩) (c__law_rows : PySem.W.codeIn K cd_law_rows "_law_rows" = true) (k__law_rows : PySem.W.keepIn K (.ref a_law_rows) = true)
    (a__law_target : PySem.W.nsIn K mainGlobals "_law_target" = some (some (.ref a_law_target))) (l__law_target : K.lookup a_law_target = some ⟨oc_law_target, od_law_target, .func (PySem.W.fnOf "_law_target" "_law_target" (defArgs s_law_target) (defBody s_law_target) (defScope s_law_target) .none kV_law_target dc_law_target pm_law_target an_law_target cd_law_target ct_law_target), sl_law_target⟩) (c__law_target : PySem.W.codeIn K cd_law_target "_law_target" = true) (k__law_target : PySem.W.keepIn K (.ref a_law_target) = true)
    (a__law_is_answer : PySem.W.nsIn K mainGlobals "_law_is_answer" = some (some (.ref a_law_is_answer))) (l__law_is_answer : K.lookup a_law_is_answer = some ⟨oc_law_is_answer, od_law_is_answer, .func (PySem.W.fnOf "_law_is_answer" "_law_is_answer" (defArgs s_law_is_answer) (defBody s_law_is_answer) (defScope s_law_is_answer) .none kV_law_is_answer dc_law_is_answer pm_law_is_answer an_law_is_answer cd_law_is_answer ct_law_is_answer), sl_law_is_answer⟩) (c__law_is_answer : PySem.W.codeIn K cd_law_is_answer "_law_is_answer" = true) (k__law_is_answer : PySem.W.keepIn K (.ref a_law_is_answer) = true)
    (a__law_marks : PySem.W.nsIn K mainGlobals "_law_marks" = some (some (.ref a_law_marks))) (l__law_marks : K.lookup a_law_marks = some ⟨oc_law_marks, od_law_marks, .func (PySem.W.fnOf "_law_marks" "_law_marks" (defArgs s_law_marks) (defBody s_law_marks) (defScope s_law_marks) .none kV_law_marks dc_law_marks pm_law_marks an_law_marks cd_law_marks ct_law_marks), sl_law_marks⟩) (c__law_marks : PySem.W.codeIn K cd_law_marks "_law_marks" = true) (k__law_marks : PySem.W.keepIn K (.ref a_law_marks) = true)
    (a__law_errors_right : PySem.W.nsIn K mainGlobals "_law_errors_right" = some (some (.ref a_law_errors_right))) (l__law_errors_right : K.lookup a_law_errors_right = some ⟨oc_law_errors_right, od_law_errors_right, .func (PySem.W.fnOf "_law_errors_right" "_law_errors_right" (defArgs s_law_errors_right) (defBody s_law_errors_right) (defScope s_law_errors_right) .none kV_law_errors_right dc_law_errors_right pm_law_errors_right an_law_errors_right cd_law_errors_right ct_law_errors_right), sl_law_errors_right⟩) (c__law_errors_right : PySem.W.codeIn K cd_law_errors_right "_law_errors_right" = true) (k__law_errors_right : PySem.W.keepIn K (.ref a_law_errors_right) = true)
    (a_law : PySem.W.nsIn K mainGlobals "law" = some (some (.ref alaw))) (l_law : K.lookup alaw = some ⟨oclaw, odlaw, .func (PySem.W.fnOf "law" "law" (defArgs slaw) (defBody slaw) (defScope slaw) .none kVlaw dclaw pmlaw anlaw cdlaw ctlaw), sllaw⟩) (c_law : PySem.W.codeIn K cdlaw "law" = true) (k_law : PySem.W.keepIn K (.ref alaw) = true)
    (z_all : PySem.W.nsIn K mainGlobals "all" = some none)
    (z_bool : PySem.W.nsIn K mainGlobals "bool" = some none)
    (z_enumerate : PySem.W.nsIn K mainGlobals "enumerate" = some none)
    (z_int : PySem.W.nsIn K mainGlobals "int" = some none)
    (z_isinstance : PySem.W.nsIn K mainGlobals "isinstance" = some none)
    (z_len : PySem.W.nsIn K mainGlobals "len" = some none)
    (z_list : PySem.W.nsIn K mainGlobals "list" = some none)
    (z_max : PySem.W.nsIn K mainGlobals "max" = some none)
    (z_range : PySem.W.nsIn K mainGlobals "range" = some none)
    (z_str : PySem.W.nsIn K mainGlobals "str" = some none)
    (z_sum : PySem.W.nsIn K mainGlobals "sum" = some none)
    (z_tuple : PySem.W.nsIn K mainGlobals "tuple" = some none)
    (z_zip : PySem.W.nsIn K mainGlobals "zip" = some none)
    {ty_MOST_LENGTH : Tok} (y_MOST_LENGTH : PySem.W.nsIn K mainGlobals "MOST_LENGTH" = some (some (.int 24 ty_MOST_LENGTH)))
    {ty_MOST_ROWS : Tok} (y_MOST_ROWS : PySem.W.nsIn K mainGlobals "MOST_ROWS" = some (some (.int 24 ty_MOST_ROWS)))
    {ay_PRIMES : Addr} {dy_PRIMES : Option Addr} {sy_PRIMES : Array (Option Value)} {my_PRIMES : Nat} {t0y_PRIMES t1y_PRIMES t2y_PRIMES t3y_PRIMES t4y_PRIMES t5y_PRIMES t6y_PRIMES t7y_PRIMES t8y_PRIMES t9y_PRIMES t10y_PRIMES t11y_PRIMES t12y_PRIMES t13y_PRIMES t14y_PRIMES t15y_PRIMES t16y_PRIMES t17y_PRIMES t18y_PRIMES t19y_PRIMES t20y_PRIMES : Tok} (y_PRIMES : PySem.W.nsIn K mainGlobals "PRIMES" = some (some (.ref ay_PRIMES))) (ly_PRIMES : K.lookup ay_PRIMES = some ⟨.type "tuple", dy_PRIMES, .seq #[.int 11 t0y_PRIMES, .int 13 t1y_PRIMES, .int 17 t2y_PRIMES, .int 19 t3y_PRIMES, .int 23 t4y_PRIMES, .int 29 t5y_PRIMES, .int 31 t6y_PRIMES, .int 37 t7y_PRIMES, .int 41 t8y_PRIMES, .int 43 t9y_PRIMES, .int 47 t10y_PRIMES, .int 53 t11y_PRIMES, .int 59 t12y_PRIMES, .int 61 t13y_PRIMES, .int 67 t14y_PRIMES, .int 71 t15y_PRIMES, .int 73 t16y_PRIMES, .int 79 t17y_PRIMES, .int 83 t18y_PRIMES, .int 89 t19y_PRIMES, .int 97 t20y_PRIMES] my_PRIMES, sy_PRIMES⟩)
    : Txt K mg := by
  exact {
    cBasis := cBasis
    g_Basis := PySem.W.mg_of X G q_Basis
    cl_Basis := ⟨pg_Basis, hd_Basis, po_Basis, sa_Basis⟩
    no_Basis_prime := no_Basis_prime
    no_Basis_pivots := no_Basis_pivots
    no_Basis_rows := no_Basis_rows
    no_Basis_made := no_Basis_made
    no_Basis_relations := no_Basis_relations
    cTenderError := cTenderError
    g_TenderError := PySem.W.mg_of X G q_TenderError
    x_TenderError := x_TenderError
    k_TenderError := k_TenderError
    b_TenderError := b_TenderError
    t_TenderError := t_TenderError
    i_TenderError := i_TenderError
    e_TenderError := ⟨hg_TenderError, hk_TenderError, b_TenderError, hd_TenderError, ha_TenderError, hn_x, ht_x, hm_TenderError⟩
    cBadPrime := cBadPrime
    g_BadPrime := PySem.W.mg_of X G q_BadPrime
    x_BadPrime := x_BadPrime
    k_BadPrime := k_BadPrime
    b_BadPrime := b_BadPrime
    t_BadPrime := t_BadPrime
    i_BadPrime := i_BadPrime
    e_BadPrime := ⟨hg_BadPrime, hk_BadPrime, b_BadPrime, hd_BadPrime, ha_BadPrime, hn_x, ht_x, hm_BadPrime⟩
    cBadRows := cBadRows
    g_BadRows := PySem.W.mg_of X G q_BadRows
    x_BadRows := x_BadRows
    k_BadRows := k_BadRows
    b_BadRows := b_BadRows
    t_BadRows := t_BadRows
    i_BadRows := i_BadRows
    e_BadRows := ⟨hg_BadRows, hk_BadRows, b_BadRows, hd_BadRows, ha_BadRows, hn_x, ht_x, hm_BadRows⟩
    cBadTarget := cBadTarget
    g_BadTarget := PySem.W.mg_of X G q_BadTarget
    x_BadTarget := x_BadTarget
    k_BadTarget := k_BadTarget
    b_BadTarget := b_BadTarget
    t_BadTarget := t_BadTarget
    i_BadTarget := i_BadTarget
    e_BadTarget := ⟨hg_BadTarget, hk_BadTarget, b_BadTarget, hd_BadTarget, ha_BadTarget, hn_x, ht_x, hm_BadTarget⟩
    su_BadPrime_TenderError := su_BadPrime_TenderError
    su_BadRows_TenderError := su_BadRows_TenderError
    su_BadTarget_TenderError := su_BadTarget_TenderError
    su_BadPrime_BadPrime := su_BadPrime_BadPrime
    su_BadPrime_BadRows := su_BadPrime_BadRows
    su_BadPrime_BadTarget := su_BadPrime_BadTarget
    su_BadRows_BadPrime := su_BadRows_BadPrime
    su_BadRows_BadRows := su_BadRows_BadRows
    su_BadRows_BadTarget := su_BadRows_BadTarget
    su_BadTarget_BadPrime := su_BadTarget_BadPrime
    su_BadTarget_BadRows := su_BadTarget_BadRows
    su_BadTarget_BadTarget := su_BadTarget_BadTarget
    ais_whole := ais_whole
    dis_whole := _
    Fis_whole := fun_mk (st := sis_whole) l_is_whole c_is_whole k_is_whole
    g_is_whole := PySem.W.mg_of X G a_is_whole
    k_is_whole := k_is_whole
    b_is_whole := (fun_mk (st := sis_whole) l_is_whole c_is_whole k_is_whole).binds (ps := ["thing"]) fun _ _ _ _ _ _ us hl => match us, hl with | [_], _ => rfl
    ais_prime := ais_prime
    dis_prime := _
    Fis_prime := fun_mk (st := sis_prime) l_is_prime c_is_prime k_is_prime
    g_is_prime := PySem.W.mg_of X G a_is_prime
    k_is_prime := k_is_prime
    b_is_prime := (fun_mk (st := sis_prime) l_is_prime c_is_prime k_is_prime).binds (ps := ["thing"]) fun _ _ _ _ _ _ us hl => match us, hl with | [_], _ => rfl
    ais_residue := ais_residue
    dis_residue := _
    Fis_residue := fun_mk (st := sis_residue) l_is_residue c_is_residue k_is_residue
    g_is_residue := PySem.W.mg_of X G a_is_residue
    k_is_residue := k_is_residue
    b_is_residue := (fun_mk (st := sis_residue) l_is_residue c_is_residue k_is_residue).binds (ps := ["prime", "thing"]) fun _ _ _ _ _ _ us hl => match us, hl with | [_, _], _ => rfl
    ais_row := ais_row
    dis_row := _
    Fis_row := fun_mk (st := sis_row) l_is_row c_is_row k_is_row
    g_is_row := PySem.W.mg_of X G a_is_row
    k_is_row := k_is_row
    b_is_row := (fun_mk (st := sis_row) l_is_row c_is_row k_is_row).binds (ps := ["prime", "length", "thing"]) fun _ _ _ _ _ _ us hl => match us, hl with | [_, _, _], _ => rfl
    aproduct := aproduct
    dproduct := _
    Fproduct := fun_mk (st := sproduct) l_product c_product k_product
    g_product := PySem.W.mg_of X G a_product
    k_product := k_product
    b_product := (fun_mk (st := sproduct) l_product c_product k_product).binds (ps := ["prime", "row", "vector"]) fun _ _ _ _ _ _ us hl => match us, hl with | [_, _, _], _ => rfl
    acombination := acombination
    dcombination := _
    Fcombination := fun_mk (st := scombination) l_combination c_combination k_combination
    g_combination := PySem.W.mg_of X G a_combination
    k_combination := k_combination
    b_combination := (fun_mk (st := scombination) l_combination c_combination k_combination).binds (ps := ["prime", "length", "rows", "coefficients"]) fun _ _ _ _ _ _ us hl => match us, hl with | [_, _, _, _], _ => rfl
    aadded := aadded
    dadded := _
    Fadded := fun_mk (st := sadded) l_added c_added k_added
    g_added := PySem.W.mg_of X G a_added
    k_added := k_added
    b_added := (fun_mk (st := sadded) l_added c_added k_added).binds (ps := ["prime", "row", "times", "other"]) fun _ _ _ _ _ _ us hl => match us, hl with | [_, _, _, _], _ => rfl
    ainverse := ainverse
    dinverse := _
    Finverse := fun_mk (st := sinverse) l_inverse c_inverse k_inverse
    g_inverse := PySem.W.mg_of X G a_inverse
    k_inverse := k_inverse
    b_inverse := (fun_mk (st := sinverse) l_inverse c_inverse k_inverse).binds (ps := ["prime", "number"]) fun _ _ _ _ _ _ us hl => match us, hl with | [_, _], _ => rfl
    afirst_place := afirst_place
    dfirst_place := _
    Ffirst_place := fun_mk (st := sfirst_place) l_first_place c_first_place k_first_place
    g_first_place := PySem.W.mg_of X G a_first_place
    k_first_place := k_first_place
    b_first_place := (fun_mk (st := sfirst_place) l_first_place c_first_place k_first_place).binds (ps := ["row"]) fun _ _ _ _ _ _ us hl => match us, hl with | [_], _ => rfl
    aBasis___init__ := aBasis___init__
    dBasis___init__ := _
    FBasis___init__ := fun_mk (st := sBasis___init__) l_Basis___init__ c_Basis___init__ k_Basis___init__
    b_Basis___init__ := (fun_mk (st := sBasis___init__) l_Basis___init__ c_Basis___init__ k_Basis___init__).binds (ps := ["self", "prime", "rows"]) fun _ _ _ _ _ _ us hl => match us, hl with | [_, _, _], _ => rfl
    mk_Basis := ⟨mk_Basis, a_Basis___init__, f_Basis___init__, kc_Basis⟩
    aBasis_reduced := aBasis_reduced
    dBasis_reduced := _
    FBasis_reduced := fun_mk (st := sBasis_reduced) l_Basis_reduced c_Basis_reduced k_Basis_reduced
    b_Basis_reduced := (fun_mk (st := sBasis_reduced) l_Basis_reduced c_Basis_reduced k_Basis_reduced).binds (ps := ["self", "row", "made"]) fun _ _ _ _ _ _ us hl => match us, hl with | [_, _, _], _ => rfl
    m_Basis_reduced := ⟨a_Basis_reduced, f_Basis_reduced, k_Basis_reduced⟩
    aBasis_take := aBasis_take
    dBasis_take := _
    FBasis_take := fun_mk (st := sBasis_take) l_Basis_take c_Basis_take k_Basis_take
    b_Basis_take := (fun_mk (st := sBasis_take) l_Basis_take c_Basis_take k_Basis_take).binds (ps := ["self", "row", "made"]) fun _ _ _ _ _ _ us hl => match us, hl with | [_, _, _], _ => rfl
    m_Basis_take := ⟨a_Basis_take, f_Basis_take, k_Basis_take⟩
    aBasis_apart := aBasis_apart
    dBasis_apart := _
    FBasis_apart := fun_mk (st := sBasis_apart) l_Basis_apart c_Basis_apart k_Basis_apart
    b_Basis_apart := (fun_mk (st := sBasis_apart) l_Basis_apart c_Basis_apart k_Basis_apart).binds (ps := ["self", "rest"]) fun _ _ _ _ _ _ us hl => match us, hl with | [_, _], _ => rfl
    m_Basis_apart := ⟨a_Basis_apart, f_Basis_apart, k_Basis_apart⟩
    ais_rows := ais_rows
    dis_rows := _
    Fis_rows := fun_mk (st := sis_rows) l_is_rows c_is_rows k_is_rows
    g_is_rows := PySem.W.mg_of X G a_is_rows
    k_is_rows := k_is_rows
    b_is_rows := (fun_mk (st := sis_rows) l_is_rows c_is_rows k_is_rows).binds (ps := ["prime", "length", "thing"]) fun _ _ _ _ _ _ us hl => match us, hl with | [_, _, _], _ => rfl
    arank := arank
    drank := _
    Frank := fun_mk (st := srank) l_rank c_rank k_rank
    g_rank := PySem.W.mg_of X G a_rank
    k_rank := k_rank
    b_rank := (fun_mk (st := srank) l_rank c_rank k_rank).binds (ps := ["prime", "rows"]) fun _ _ _ _ _ _ us hl => match us, hl with | [_, _], _ => rfl
    acheck_target := acheck_target
    dcheck_target := _
    Fcheck_target := fun_mk (st := scheck_target) l_check_target c_check_target k_check_target
    g_check_target := PySem.W.mg_of X G a_check_target
    k_check_target := k_check_target
    b_check_target := (fun_mk (st := scheck_target) l_check_target c_check_target k_check_target).binds (ps := ["prime", "target"]) fun _ _ _ _ _ _ us hl => match us, hl with | [_, _], _ => rfl
    aalternative := aalternative
    dalternative := _
    Falternative := fun_mk (st := salternative) l_alternative c_alternative k_alternative
    g_alternative := PySem.W.mg_of X G a_alternative
    k_alternative := k_alternative
    b_alternative := (fun_mk (st := salternative) l_alternative c_alternative k_alternative).binds (ps := ["prime", "target", "rows"]) fun _ _ _ _ _ _ us hl => match us, hl with | [_, _, _], _ => rfl
    ais_alternative := ais_alternative
    dis_alternative := _
    Fis_alternative := fun_mk (st := sis_alternative) l_is_alternative c_is_alternative k_is_alternative
    g_is_alternative := PySem.W.mg_of X G a_is_alternative
    k_is_alternative := k_is_alternative
    b_is_alternative := (fun_mk (st := sis_alternative) l_is_alternative c_is_alternative k_is_alternative).binds (ps := ["prime", "target", "rows", "thing"]) fun _ _ _ _ _ _ us hl => match us, hl with | [_, _, _, _], _ => rfl
    a_law_se_begin := a_law_se_begin
    d_law_se_begin := _
    F_law_se_begin := fun_mk (st := s_law_se_begin) l__law_se_begin c__law_se_begin k__law_se_begin
    g__law_se_begin := PySem.W.mg_of X G a__law_se_begin
    k__law_se_begin := k__law_se_begin
    b__law_se_begin := (fun_mk (st := s_law_se_begin) l__law_se_begin c__law_se_begin k__law_se_begin).binds (ps := ["script"]) fun _ _ _ _ _ _ us hl => match us, hl with | [_], _ => rfl
    a_law_se_take := a_law_se_take
    d_law_se_take := _
    F_law_se_take := fun_mk (st := s_law_se_take) l__law_se_take c__law_se_take k__law_se_take
    g__law_se_take := PySem.W.mg_of X G a__law_se_take
    k__law_se_take := k__law_se_take
    b__law_se_take := (fun_mk (st := s_law_se_take) l__law_se_take c__law_se_take k__law_se_take).binds (ps := ["draw", "size"]) fun _ _ _ _ _ _ us hl => match us, hl with | [_, _], _ => rfl
    a_law_se_primes := a_law_se_primes
    d_law_se_primes := _
    F_law_se_primes := fun_mk (st := s_law_se_primes) l__law_se_primes c__law_se_primes k__law_se_primes
    g__law_se_primes := PySem.W.mg_of X G a__law_se_primes
    k__law_se_primes := k__law_se_primes
    b__law_se_primes := (fun_mk (st := s_law_se_primes) l__law_se_primes c__law_se_primes k__law_se_primes).binds (ps := []) fun _ _ _ _ _ _ us hl => match us, hl with | [], _ => rfl
    a_law_se_is_whole := a_law_se_is_whole
    d_law_se_is_whole := _
    F_law_se_is_whole := fun_mk (st := s_law_se_is_whole) l__law_se_is_whole c__law_se_is_whole k__law_se_is_whole
    g__law_se_is_whole := PySem.W.mg_of X G a__law_se_is_whole
    k__law_se_is_whole := k__law_se_is_whole
    b__law_se_is_whole := (fun_mk (st := s_law_se_is_whole) l__law_se_is_whole c__law_se_is_whole k__law_se_is_whole).binds (ps := ["thing", "most"]) fun _ _ _ _ _ _ us hl => match us, hl with | [_, _], _ => rfl
    a_law_se_is_row := a_law_se_is_row
    d_law_se_is_row := _
    F_law_se_is_row := fun_mk (st := s_law_se_is_row) l__law_se_is_row c__law_se_is_row k__law_se_is_row
    g__law_se_is_row := PySem.W.mg_of X G a__law_se_is_row
    k__law_se_is_row := k__law_se_is_row
    b__law_se_is_row := (fun_mk (st := s_law_se_is_row) l__law_se_is_row c__law_se_is_row k__law_se_is_row).binds (ps := ["p", "length", "thing"]) fun _ _ _ _ _ _ us hl => match us, hl with | [_, _, _], _ => rfl
    a_law_se_row := a_law_se_row
    d_law_se_row := _
    F_law_se_row := fun_mk (st := s_law_se_row) l__law_se_row c__law_se_row k__law_se_row
    g__law_se_row := PySem.W.mg_of X G a__law_se_row
    k__law_se_row := k__law_se_row
    b__law_se_row := (fun_mk (st := s_law_se_row) l__law_se_row c__law_se_row k__law_se_row).binds (ps := ["draw", "p", "length", "met"]) fun _ _ _ _ _ _ us hl => match us, hl with | [_, _, _, _], _ => rfl
    a_law_se_dot := a_law_se_dot
    d_law_se_dot := _
    F_law_se_dot := fun_mk (st := s_law_se_dot) l__law_se_dot c__law_se_dot k__law_se_dot
    g__law_se_dot := PySem.W.mg_of X G a__law_se_dot
    k__law_se_dot := k__law_se_dot
    b__law_se_dot := (fun_mk (st := s_law_se_dot) l__law_se_dot c__law_se_dot k__law_se_dot).binds (ps := ["p", "row", "vector"]) fun _ _ _ _ _ _ us hl => match us, hl with | [_, _, _], _ => rfl
    a_law_se_mixed := a_law_se_mixed
    d_law_se_mixed := _
    F_law_se_mixed := fun_mk (st := s_law_se_mixed) l__law_se_mixed c__law_se_mixed k__law_se_mixed
    g__law_se_mixed := PySem.W.mg_of X G a__law_se_mixed
    k__law_se_mixed := k__law_se_mixed
    b__law_se_mixed := (fun_mk (st := s_law_se_mixed) l__law_se_mixed c__law_se_mixed k__law_se_mixed).binds (ps := ["p", "length", "rows", "coefficients"]) fun _ _ _ _ _ _ us hl => match us, hl with | [_, _, _, _], _ => rfl
    a_law_se_rank := a_law_se_rank
    d_law_se_rank := _
    F_law_se_rank := fun_mk (st := s_law_se_rank) l__law_se_rank c__law_se_rank k__law_se_rank
    g__law_se_rank := PySem.W.mg_of X G a__law_se_rank
    k__law_se_rank := k__law_se_rank
    b__law_se_rank := (fun_mk (st := s_law_se_rank) l__law_se_rank c__law_se_rank k__law_se_rank).binds (ps := ["p", "rows"]) fun _ _ _ _ _ _ us hl => match us, hl with | [_, _], _ => rfl
    a_law_se_is_in := a_law_se_is_in
    d_law_se_is_in := _
    F_law_se_is_in := fun_mk (st := s_law_se_is_in) l__law_se_is_in c__law_se_is_in k__law_se_is_in
    g__law_se_is_in := PySem.W.mg_of X G a__law_se_is_in
    k__law_se_is_in := k__law_se_is_in
    b__law_se_is_in := (fun_mk (st := s_law_se_is_in) l__law_se_is_in c__law_se_is_in k__law_se_is_in).binds (ps := ["p", "target", "rows"]) fun _ _ _ _ _ _ us hl => match us, hl with | [_, _, _], _ => rfl
    a_law_se_is_pair := a_law_se_is_pair
    d_law_se_is_pair := _
    F_law_se_is_pair := fun_mk (st := s_law_se_is_pair) l__law_se_is_pair c__law_se_is_pair k__law_se_is_pair
    g__law_se_is_pair := PySem.W.mg_of X G a__law_se_is_pair
    k__law_se_is_pair := k__law_se_is_pair
    b__law_se_is_pair := (fun_mk (st := s_law_se_is_pair) l__law_se_is_pair c__law_se_is_pair k__law_se_is_pair).binds (ps := ["thing", "word", "p", "length"]) fun _ _ _ _ _ _ us hl => match us, hl with | [_, _, _, _], _ => rfl
    a_law_se_bent := a_law_se_bent
    d_law_se_bent := _
    F_law_se_bent := fun_mk (st := s_law_se_bent) l__law_se_bent c__law_se_bent k__law_se_bent
    g__law_se_bent := PySem.W.mg_of X G a__law_se_bent
    k__law_se_bent := k__law_se_bent
    b__law_se_bent := (fun_mk (st := s_law_se_bent) l__law_se_bent c__law_se_bent k__law_se_bent).binds (ps := ["draw", "p", "pair", "words"]) fun _ _ _ _ _ _ us hl => match us, hl with | [_, _, _, _], _ => rfl
    a_law_se_says := a_law_se_says
    d_law_se_says := _
    F_law_se_says := fun_mk (st := s_law_se_says) l__law_se_says c__law_se_says k__law_se_says
    g__law_se_says := PySem.W.mg_of X G a__law_se_says
    k__law_se_says := k__law_se_says
    b__law_se_says := (fun_mk (st := s_law_se_says) l__law_se_says c__law_se_says k__law_se_says).binds (ps := ["found", "due"]) fun _ _ _ _ _ _ us hl => match us, hl with | [_, _], _ => rfl
    a_law_se_one := a_law_se_one
    d_law_se_one := _
    F_law_se_one := fun_mk (st := s_law_se_one) l__law_se_one c__law_se_one k__law_se_one
    g__law_se_one := PySem.W.mg_of X G a__law_se_one
    k__law_se_one := k__law_se_one
    b__law_se_one := (fun_mk (st := s_law_se_one) l__law_se_one c__law_se_one k__law_se_one).binds (ps := ["marks", "at"]) fun _ _ _ _ _ _ us hl => match us, hl with | [_, _], _ => rfl
    a_law_rows := a_law_rows
    d_law_rows := _
    F_law_rows := fun_mk (st := s_law_rows) l__law_rows c__law_rows k__law_rows
    g__law_rows := PySem.W.mg_of X G a__law_rows
    k__law_rows := k__law_rows
    b__law_rows := (fun_mk (st := s_law_rows) l__law_rows c__law_rows k__law_rows).binds (ps := ["draw", "p", "length"]) fun _ _ _ _ _ _ us hl => match us, hl with | [_, _, _], _ => rfl
    a_law_target := a_law_target
    d_law_target := _
    F_law_target := fun_mk (st := s_law_target) l__law_target c__law_target k__law_target
    g__law_target := PySem.W.mg_of X G a__law_target
    k__law_target := k__law_target
    b__law_target := (fun_mk (st := s_law_target) l__law_target c__law_target k__law_target).binds (ps := ["draw", "p", "length", "rows"]) fun _ _ _ _ _ _ us hl => match us, hl with | [_, _, _, _], _ => rfl
    a_law_is_answer := a_law_is_answer
    d_law_is_answer := _
    F_law_is_answer := fun_mk (st := s_law_is_answer) l__law_is_answer c__law_is_answer k__law_is_answer
    g__law_is_answer := PySem.W.mg_of X G a__law_is_answer
    k__law_is_answer := k__law_is_answer
    b__law_is_answer := (fun_mk (st := s_law_is_answer) l__law_is_answer c__law_is_answer k__law_is_answer).binds (ps := ["p", "target", "rows", "thing"]) fun _ _ _ _ _ _ us hl => match us, hl with | [_, _, _, _], _ => rfl
    a_law_marks := a_law_marks
    d_law_marks := _
    F_law_marks := fun_mk (st := s_law_marks) l__law_marks c__law_marks k__law_marks
    g__law_marks := PySem.W.mg_of X G a__law_marks
    k__law_marks := k__law_marks
    b__law_marks := (fun_mk (st := s_law_marks) l__law_marks c__law_marks k__law_marks).binds (ps := ["p", "target", "rows", "way"]) fun _ _ _ _ _ _ us hl => match us, hl with | [_, _, _, _], _ => rfl
    a_law_errors_right := a_law_errors_right
    d_law_errors_right := _
    F_law_errors_right := fun_mk (st := s_law_errors_right) l__law_errors_right c__law_errors_right k__law_errors_right
    g__law_errors_right := PySem.W.mg_of X G a__law_errors_right
    k__law_errors_right := k__law_errors_right
    b__law_errors_right := (fun_mk (st := s_law_errors_right) l__law_errors_right c__law_errors_right k__law_errors_right).binds (ps := ["draw", "p", "target", "rows"]) fun _ _ _ _ _ _ us hl => match us, hl with | [_, _, _, _], _ => rfl
    alaw := alaw
    dlaw := _
    Flaw := fun_mk (st := slaw) l_law c_law k_law
    g_law := PySem.W.mg_of X G a_law
    k_law := k_law
    b_law := (fun_mk (st := slaw) l_law c_law k_law).binds (ps := ["script"]) fun _ _ _ _ _ _ us hl => match us, hl with | [_], _ => rfl
    n_all := PySem.W.mg_none_of X G z_all
    n_bool := PySem.W.mg_none_of X G z_bool
    n_enumerate := PySem.W.mg_none_of X G z_enumerate
    n_int := PySem.W.mg_none_of X G z_int
    n_isinstance := PySem.W.mg_none_of X G z_isinstance
    n_len := PySem.W.mg_none_of X G z_len
    n_list := PySem.W.mg_none_of X G z_list
    n_max := PySem.W.mg_none_of X G z_max
    n_range := PySem.W.mg_none_of X G z_range
    n_str := PySem.W.mg_none_of X G z_str
    n_sum := PySem.W.mg_none_of X G z_sum
    n_tuple := PySem.W.mg_none_of X G z_tuple
    n_zip := PySem.W.mg_none_of X G z_zip
    c_MOST_LENGTH := ⟨_, PySem.W.mg_of X G y_MOST_LENGTH, _, rfl⟩
    c_MOST_ROWS := ⟨_, PySem.W.mg_of X G y_MOST_ROWS, _, rfl⟩
    aPRIMES := ay_PRIMES
    c_PRIMES := ⟨_, PySem.W.mg_of X G y_PRIMES, rfl⟩
    e_PRIMES := fun H => .tup (.inr ⟨_, _, _, ly_PRIMES, rfl, rfl, (show 21 ≤ sizeLine by decide), (.cons (show RelV (.int 11) _ from ⟨_, rfl⟩) (.cons (show RelV (.int 13) _ from ⟨_, rfl⟩) (.cons (show RelV (.int 17) _ from ⟨_, rfl⟩) (.cons (show RelV (.int 19) _ from ⟨_, rfl⟩) (.cons (show RelV (.int 23) _ from ⟨_, rfl⟩) (.cons (show RelV (.int 29) _ from ⟨_, rfl⟩) (.cons (show RelV (.int 31) _ from ⟨_, rfl⟩) (.cons (show RelV (.int 37) _ from ⟨_, rfl⟩) (.cons (show RelV (.int 41) _ from ⟨_, rfl⟩) (.cons (show RelV (.int 43) _ from ⟨_, rfl⟩) (.cons (show RelV (.int 47) _ from ⟨_, rfl⟩) (.cons (show RelV (.int 53) _ from ⟨_, rfl⟩) (.cons (show RelV (.int 59) _ from ⟨_, rfl⟩) (.cons (show RelV (.int 61) _ from ⟨_, rfl⟩) (.cons (show RelV (.int 67) _ from ⟨_, rfl⟩) (.cons (show RelV (.int 71) _ from ⟨_, rfl⟩) (.cons (show RelV (.int 73) _ from ⟨_, rfl⟩) (.cons (show RelV (.int 79) _ from ⟨_, rfl⟩) (.cons (show RelV (.int 83) _ from ⟨_, rfl⟩) (.cons (show RelV (.int 89) _ from ⟨_, rfl⟩) (.cons (show RelV (.int 97) _ from ⟨_, rfl⟩) .nil)))))))))))))))))))))⟩) (.cons (.int 11) (.cons (.int 13) (.cons (.int 17) (.cons (.int 19) (.cons (.int 23) (.cons (.int 29) (.cons (.int 31) (.cons (.int 37) (.cons (.int 41) (.cons (.int 43) (.cons (.int 47) (.cons (.int 53) (.cons (.int 59) (.cons (.int 61) (.cons (.int 67) (.cons (.int 71) (.cons (.int 73) (.cons (.int 79) (.cons (.int 83) (.cons (.int 89) (.cons (.int 97) .nil)))))))))))))))))))))
  }
theorem most_price {q : Program} {lv : List (Str × PySem.W.WData)} {mg : Str → Option Value} {h : Heap} (X : PySem.W.XL q lv mg h) (hm : ((("MOST_PRICE" : Str), PySem.W.WData.int 1000000000) : Str × PySem.W.WData) ∈ lv) : ∃ u, mg "MOST_PRICE" = some u ∧ RelV (.int 1000000000) u := by
  obtain ⟨v, e, r⟩ := X.2.val _ hm
  refine ⟨v, e, ?_⟩
  cases r with
  | int i t => exact ⟨t, rfl⟩
theorem law_end {P : Program} {w : World} {K : PySem.W.Frag} {mg : Str → Option Value} {fa : Addr} (T : Txt K mg) (hm : mg "law" = some (.ref fa)) :
    ∃ fd : FuncData, (∀ (s : Shared) (u : Value), BindsTo s fd ⟨[u], []⟩ [("script", u)]) ∧ LawAt P w K mg "law" slaw fa fd 9 63 "script" := by
  have e := T.g_law.symm.trans hm
  cases e
  refine ⟨T.dlaw, fun s u => ?_, law_ok T⟩
  obtain ⟨oc, od, kV, doc, pm, an, cdv, ct, osl, e, _, _⟩ := T.Flaw.ex
  rw [e]
  exact .of_eq rfl
end Sc

open PySem PySem.W PyProof.Rows in
set_option maxRecDepth 100000 in
set_option maxHeartbeats 0 in
theorem PySem.Challenge.cw_protestproof_k60_alternatives_holds : PySem.Challenge.rw_protestproof_k60_alternatives.Holds := by
  w_on; o_law; k_head; (case hw => w_witness2)
  k_fill
  refine Fw.walk_at (l := PySem.Challenge.rw_protestproof_k60_alternatives) (n := 63) (k := 9) (st := Sc.slaw) (p := "script") rfl (by decide) rfl ⟨rfl, by decide, by decide⟩ (fun w h Y => PySem.W.kIn_of Y) ?F
  case F =>
    intro w mg fa h KX G X hmg
    refine' Sc.law_end (Sc.txt_mk KX G ?q_Basis ?pg_Basis ?hd_Basis ?po_Basis ?sa_Basis ?mk_Basis ?kc_Basis ?no_Basis_prime ?no_Basis_pivots ?no_Basis_rows ?no_Basis_made ?no_Basis_relations ?q_TenderError ?x_TenderError ?k_TenderError ?b_TenderError ?t_TenderError ?i_TenderError ?hg_TenderError ?hk_TenderError ?hd_TenderError ?ha_TenderError ?hm_TenderError ?q_BadPrime ?x_BadPrime ?k_BadPrime ?b_BadPrime ?t_BadPrime ?i_BadPrime ?hg_BadPrime ?hk_BadPrime ?hd_BadPrime ?ha_BadPrime ?hm_BadPrime ?q_BadRows ?x_BadRows ?k_BadRows ?b_BadRows ?t_BadRows ?i_BadRows ?hg_BadRows ?hk_BadRows ?hd_BadRows ?ha_BadRows ?hm_BadRows ?q_BadTarget ?x_BadTarget ?k_BadTarget ?b_BadTarget ?t_BadTarget ?i_BadTarget ?hg_BadTarget ?hk_BadTarget ?hd_BadTarget ?ha_BadTarget ?hm_BadTarget ?hn_x ?ht_x ?su_BadPrime_TenderError ?su_BadRows_TenderError ?su_BadTarget_TenderError ?su_BadPrime_BadPrime ?su_BadPrime_BadRows ?su_BadPrime_BadTarget ?su_BadRows_BadPrime ?su_BadRows_BadRows ?su_BadRows_BadTarget ?su_BadTarget_BadPrime ?su_BadTarget_BadRows ?su_BadTarget_BadTarget ?a_is_whole ?l_is_whole ?c_is_whole ?k_is_whole ?a_is_prime ?l_is_prime ?c_is_prime ?k_is_prime ?a_is_residue ?l_is_residue ?c_is_residue ?k_is_residue ?a_is_row ?l_is_row ?c_is_row ?k_is_row ?a_product ?l_product ?c_product ?k_product ?a_combination ?l_combination ?c_combination ?k_combination ?a_added ?l_added ?c_added ?k_added ?a_inverse ?l_inverse ?c_inverse ?k_inverse ?a_first_place ?l_first_place ?c_first_place ?k_first_place ?a_Basis___init__ ?f_Basis___init__ ?l_Basis___init__ ?c_Basis___init__ ?k_Basis___init__ ?a_Basis_reduced ?f_Basis_reduced ?l_Basis_reduced ?c_Basis_reduced ?k_Basis_reduced ?a_Basis_take ?f_Basis_take ?l_Basis_take ?c_Basis_take ?k_Basis_take ?a_Basis_apart ?f_Basis_apart ?l_Basis_apart ?c_Basis_apart ?k_Basis_apart ?a_is_rows ?l_is_rows ?c_is_rows ?k_is_rows ?a_rank ?l_rank ?c_rank ?k_rank ?a_check_target ?l_check_target ?c_check_target ?k_check_target ?a_alternative ?l_alternative ?c_alternative ?k_alternative ?a_is_alternative ?l_is_alternative ?c_is_alternative ?k_is_alternative ?a__law_se_begin ?l__law_se_begin ?c__law_se_begin ?k__law_se_begin ?a__law_se_take ?l__law_se_take ?c__law_se_take ?k__law_se_take ?a__law_se_primes ?l__law_se_primes ?c__law_se_primes ?k__law_se_primes ?a__law_se_is_whole ?l__law_se_is_whole ?c__law_se_is_whole ?k__law_se_is_whole ?a__law_se_is_row ?l__law_se_is_row ?c__law_se_is_row ?k__law_se_is_row ?a__law_se_row ?l__law_se_row ?c__law_se_row ?k__law_se_row ?a__law_se_dot ?l__law_se_dot ?c__law_se_dot ?k__law_se_dot ?a__law_se_mixed ?l__law_se_mixed ?c__law_se_mixed ?k__law_se_mixed ?a__law_se_rank ?l__law_se_rank ?c__law_se_rank ?k__law_se_rank ?a__law_se_is_in ?l__law_se_is_in ?c__law_se_is_in ?k__law_se_is_in ?a__law_se_is_pair ?l__law_se_is_pair ?c__law_se_is_pair ?k__law_se_is_pair ?a__law_se_bent ?l__law_se_bent ?c__law_se_bent ?k__law_se_bent ?a__law_se_says ?l__law_se_says ?c__law_se_says ?k__law_se_says ?a__law_se_one ?l__law_se_one ?c__law_se_one ?k__law_se_one ?a__law_rows ?l__law_rows ?c__law_rows ?k__law_rows ?a__law_target ?l__law_target ?c__law_target ?k__law_target ?a__law_is_answer ?l__law_is_answer ?c__law_is_answer ?k__law_is_answer ?a__law_marks ?l__law_marks ?c__law_marks ?k__law_marks ?a__law_errors_right ?l__law_errors_right ?c__law_errors_right ?k__law_errors_right ?a_law ?l_law ?c_law ?k_law ?z_all ?z_bool ?z_enumerate ?z_int ?z_isinstance ?z_len ?z_list ?z_max ?z_range ?z_str ?z_sum ?z_tuple ?z_zip ?y_MOST_LENGTH ?y_MOST_ROWS ?y_PRIMES ?ly_PRIMES) hmg
    (case q_Basis => k_is)
    (case pg_Basis => k_is)
    (case hd_Basis => k_is)
    (case po_Basis => k_is)
    (case sa_Basis => k_is)
    (case mk_Basis => k_is)
    (case kc_Basis => k_is)
    (case no_Basis_prime => k_is)
    (case no_Basis_pivots => k_is)
    (case no_Basis_rows => k_is)
    (case no_Basis_made => k_is)
    (case no_Basis_relations => k_is)
    (case q_TenderError => k_is)
    (case x_TenderError => k_exc)
    (case k_TenderError => k_is)
    (case b_TenderError => k_is)
    (case t_TenderError => k_is)
    (case i_TenderError => k_is)
    (case hg_TenderError => k_is)
    (case hk_TenderError => k_is)
    (case hd_TenderError => k_is)
    (case ha_TenderError => k_is)
    (case hm_TenderError => k_is)
    (case q_BadPrime => k_is)
    (case x_BadPrime => k_exc)
    (case k_BadPrime => k_is)
    (case b_BadPrime => k_is)
    (case t_BadPrime => k_is)
    (case i_BadPrime => k_is)
    (case hg_BadPrime => k_is)
    (case hk_BadPrime => k_is)
    (case hd_BadPrime => k_is)
    (case ha_BadPrime => k_is)
    (case hm_BadPrime => k_is)
    (case q_BadRows => k_is)
    (case x_BadRows => k_exc)
    (case k_BadRows => k_is)
    (case b_BadRows => k_is)
    (case t_BadRows => k_is)
    (case i_BadRows => k_is)
    (case hg_BadRows => k_is)
    (case hk_BadRows => k_is)
    (case hd_BadRows => k_is)
    (case ha_BadRows => k_is)
    (case hm_BadRows => k_is)
    (case q_BadTarget => k_is)
    (case x_BadTarget => k_exc)
    (case k_BadTarget => k_is)
    (case b_BadTarget => k_is)
    (case t_BadTarget => k_is)
    (case i_BadTarget => k_is)
    (case hg_BadTarget => k_is)
    (case hk_BadTarget => k_is)
    (case hd_BadTarget => k_is)
    (case ha_BadTarget => k_is)
    (case hm_BadTarget => k_is)
    (case hn_x => k_is)
    (case ht_x => k_is)
    (case su_BadPrime_TenderError => first | k_is | rfl)
    (case su_BadRows_TenderError => first | k_is | rfl)
    (case su_BadTarget_TenderError => first | k_is | rfl)
    (case su_BadPrime_BadPrime => first | k_is | rfl)
    (case su_BadPrime_BadRows => first | k_is | rfl)
    (case su_BadPrime_BadTarget => first | k_is | rfl)
    (case su_BadRows_BadPrime => first | k_is | rfl)
    (case su_BadRows_BadRows => first | k_is | rfl)
    (case su_BadRows_BadTarget => first | k_is | rfl)
    (case su_BadTarget_BadPrime => first | k_is | rfl)
    (case su_BadTarget_BadRows => first | k_is | rfl)
    (case su_BadTarget_BadTarget => first | k_is | rfl)
    (case a_is_whole => k_is)
    (case l_is_whole => k_is)
    (case c_is_whole => k_is)
    (case k_is_whole => k_is)
    (case a_is_prime => k_is)
    (case l_is_prime => k_is)
    (case c_is_prime => k_is)
    (case k_is_prime => k_is)
    (case a_is_residue => k_is)
    (case l_is_residue => k_is)
    (case c_is_residue => k_is)
    (case k_is_residue => k_is)
    (case a_is_row => k_is)
    (case l_is_row => k_is)
    (case c_is_row => k_is)
    (case k_is_row => k_is)
    (case a_product => k_is)
    (case l_product => k_is)
    (case c_product => k_is)
    (case k_product => k_is)
    (case a_combination => k_is)
    (case l_combination => k_is)
    (case c_combination => k_is)
    (case k_combination => k_is)
    (case a_added => k_is)
    (case l_added => k_is)
    (case c_added => k_is)
    (case k_added => k_is)
    (case a_inverse => k_is)
    (case l_inverse => k_is)
    (case c_inverse => k_is)
    (case k_inverse => k_is)
    (case a_first_place => k_is)
    (case l_first_place => k_is)
    (case c_first_place => k_is)
    (case k_first_place => k_is)
    (case a_Basis___init__ => k_is)
    (case f_Basis___init__ => k_is)
    (case l_Basis___init__ => k_is)
    (case c_Basis___init__ => k_is)
    (case k_Basis___init__ => k_is)
    (case a_Basis_reduced => k_is)
    (case f_Basis_reduced => k_is)
    (case l_Basis_reduced => k_is)
    (case c_Basis_reduced => k_is)
    (case k_Basis_reduced => k_is)
    (case a_Basis_take => k_is)
    (case f_Basis_take => k_is)
    (case l_Basis_take => k_is)
    (case c_Basis_take => k_is)
    (case k_Basis_take => k_is)
    (case a_Basis_apart => k_is)
    (case f_Basis_apart => k_is)
    (case l_Basis_apart => k_is)
    (case c_Basis_apart => k_is)
    (case k_Basis_apart => k_is)
    (case a_is_rows => k_is)
    (case l_is_rows => k_is)
    (case c_is_rows => k_is)
    (case k_is_rows => k_is)
    (case a_rank => k_is)
    (case l_rank => k_is)
    (case c_rank => k_is)
    (case k_rank => k_is)
    (case a_check_target => k_is)
    (case l_check_target => k_is)
    (case c_check_target => k_is)
    (case k_check_target => k_is)
    (case a_alternative => k_is)
    (case l_alternative => k_is)
    (case c_alternative => k_is)
    (case k_alternative => k_is)
    (case a_is_alternative => k_is)
    (case l_is_alternative => k_is)
    (case c_is_alternative => k_is)
    (case k_is_alternative => k_is)
    (case a__law_se_begin => k_is)
    (case l__law_se_begin => k_is)
    (case c__law_se_begin => k_is)
    (case k__law_se_begin => k_is)
    (case a__law_se_take => k_is)
    (case l__law_se_take => k_is)
    (case c__law_se_take => k_is)
    (case k__law_se_take => k_is)
    (case a__law_se_primes => k_is)
    (case l__law_se_primes => k_is)
    (case c__law_se_primes => k_is)
    (case k__law_se_primes => k_is)
    (case a__law_se_is_whole => k_is)
    (case l__law_se_is_whole => k_is)
    (case c__law_se_is_whole => k_is)
    (case k__law_se_is_whole => k_is)
    (case a__law_se_is_row => k_is)
    (case l__law_se_is_row => k_is)
    (case c__law_se_is_row => k_is)
    (case k__law_se_is_row => k_is)
    (case a__law_se_row => k_is)
    (case l__law_se_row => k_is)
    (case c__law_se_row => k_is)
    (case k__law_se_row => k_is)
    (case a__law_se_dot => k_is)
    (case l__law_se_dot => k_is)
    (case c__law_se_dot => k_is)
    (case k__law_se_dot => k_is)
    (case a__law_se_mixed => k_is)
    (case l__law_se_mixed => k_is)
    (case c__law_se_mixed => k_is)
    (case k__law_se_mixed => k_is)
    (case a__law_se_rank => k_is)
    (case l__law_se_rank => k_is)
    (case c__law_se_rank => k_is)
    (case k__law_se_rank => k_is)
    (case a__law_se_is_in => k_is)
    (case l__law_se_is_in => k_is)
    (case c__law_se_is_in => k_is)
    (case k__law_se_is_in => k_is)
    (case a__law_se_is_pair => k_is)
    (case l__law_se_is_pair => k_is)
    (case c__law_se_is_pair => k_is)
    (case k__law_se_is_pair => k_is)
    (case a__law_se_bent => k_is)
    (case l__law_se_bent => k_is)
    (case c__law_se_bent => k_is)
    (case k__law_se_bent => k_is)
    (case a__law_se_says => k_is)
    (case l__law_se_says => k_is)
    (case c__law_se_says => k_is)
    (case k__law_se_says => k_is)
    (case a__law_se_one => k_is)
    (case l__law_se_one => k_is)
    (case c__law_se_one => k_is)
    (case k__law_se_one => k_is)
    (case a__law_rows => k_is)
    (case l__law_rows => k_is)
    (case c__law_rows => k_is)
    (case k__law_rows => k_is)
    (case a__law_target => k_is)
    (case l__law_target => k_is)
    (case c__law_target => k_is)
    (case k__law_target => k_is)
    (case a__law_is_answer => k_is)
    (case l__law_is_answer => k_is)
    (case c__law_is_answer => k_is)
    (case k__law_is_answer => k_is)
    (case a__law_marks => k_is)
    (case l__law_marks => k_is)
    (case c__law_marks => k_is)
    (case k__law_marks => k_is)
    (case a__law_errors_right => k_is)
    (case l__law_errors_right => k_is)
    (case c__law_errors_right => k_is)
    (case k__law_errors_right => k_is)
    (case a_law => k_is)
    (case l_law => k_is)
    (case c_law => k_is)
    (case k_law => k_is)
    (case z_all => k_is)
    (case z_bool => k_is)
    (case z_enumerate => k_is)
    (case z_int => k_is)
    (case z_isinstance => k_is)
    (case z_len => k_is)
    (case z_list => k_is)
    (case z_max => k_is)
    (case z_range => k_is)
    (case z_str => k_is)
    (case z_sum => k_is)
    (case z_tuple => k_is)
    (case z_zip => k_is)
    (case y_MOST_LENGTH => k_is)
    (case y_MOST_ROWS => k_is)
    (case y_PRIMES => k_is)
    (case ly_PRIMES => k_is)
#print axioms PySem.Challenge.cw_protestproof_k60_alternatives_holds

