import PyProof.Rows.All
import Wide.All
import OpenK.AllK
import Wide.FinOn
import HandS.ForMost
import HandS.IsInst
import HandS.Gcd
import HandS.Zip
import HandS.Style
import HandS.Codes
import HandS.Wide
import HandS.Walk
import HandS.SortRule
import HandS.SortOrd
import HandS.Conv
import HandS.SortInts
import HandS.DictComp
import HandS.Comp
import HandS.More
import HandS.TupAny
import HandS.TryOnly
import HandS.RaiseMore
import HandS.Star
import HandS.Iter
import HandS.WordsExc
import HandS.ExcIs
import HandS.ExcValue
import HandS.ExcInit
import HandS.ExcField
import KE.KExcSuper
import KE.KExcIs
import HandS.Flow
import HandS.TupMul
import KE.GoesNew
import KE.KRevSl
import HandS.TupSets
import HandS.Lambda
import KE.KNestM
import KE.SortKeyHeap
import PyProof.TupleOfSeq
import PySem.PyData
import PySem.Challenge.RW_protestproof_k68_bids_fields_and_formula
import HandS.List
import PyProof.Rows.SeqMore
import HandS.EndTab
import HandS.EndOwn
set_option Elab.async false
set_option linter.all false
set_option maxRecDepth 100000
set_option maxHeartbeats 4000000
/-! The frame: immutable data as PyData, evaluation judgements that speak of data alone. -/
namespace Fw
open PySem L2

/-! ### data that stays -/
section
variable {K : PySem.W.Frag} {H H' : Hp}
theorem rd_mono {a : Addr} {u : HO} (s : Same H H') (h : Rd H a u) : Rd H' a u := by
  rcases h with h | ⟨o, h⟩
  · exact .inl (s _ _ h)
  · exact .inr ⟨o, s _ _ h⟩
theorem sql_mono {a : Addr} {xs : List V} (s : Same H H') (h : SqL K H a xs) : SqL K H' a xs := by
  rcases h with h | h
  · exact .inl (rd_mono s h)
  · exact .inr h
theorem sqt_mono {a : Addr} {xs : List V} (s : Same H H') (h : SqT K H a xs) : SqT K H' a xs := by
  rcases h with h | h
  · exact .inl (rd_mono s h)
  · exact .inr h
mutual
theorem dp_mono (s : Same H H') : ∀ (d : PyData) (v : V), Dp K H v d → Dp K H' v d
  | .none, _, h => by cases h; exact .non
  | .bool b, _, h => by cases h; exact .bl b
  | .int i, _, h => by cases h; exact .int i
  | .str x, _, h => by cases h; exact .str x
  | .list ds, _, h => by
    cases h with
    | lst hs ha => exact .lst (sql_mono s hs) (dpa_mono s ds _ ha)
  | .tuple ds, _, h => by
    cases h with
    | tup hs ha => exact .tup (sqt_mono s hs) (dpa_mono s ds _ ha)
  | .dict _, _, h => by cases h
theorem dpa_mono (s : Same H H') : ∀ (ds : List PyData) (vs : List V), DpAll K H vs ds → DpAll K H' vs ds
  | [], _, h => by cases h; exact .nil
  | d :: ds, _, h => by
    cases h with
    | cons h1 h2 => exact .cons (dp_mono s d _ h1) (dpa_mono s ds _ h2)
end
theorem dpa_len : ∀ {ds : List PyData} {vs : List V}, DpAll K H vs ds → vs.length = ds.length
  | [], _, h => by cases h; rfl
  | _ :: _, _, h => by
    cases h with
    | cons _ h2 => rw [List.length_cons, List.length_cons, dpa_len h2]
theorem dpa_get : ∀ {ds : List PyData} {vs : List V} {i : Nat} {v : V}, DpAll K H vs ds → vs[i]? = some v → ∃ d, ds[i]? = some d ∧ Dp K H v d
  | [], _, i, v, h, e => by cases h; simp at e
  | d :: ds, _, 0, v, h, e => by
    cases h with
    | cons h1 h2 => simp at e; subst e; exact ⟨d, rfl, h1⟩
  | d :: ds, _, i + 1, v, h, e => by
    cases h with
    | cons h1 h2 =>
      obtain ⟨d', e', h'⟩ := dpa_get (i := i) h2 (by simpa using e)
      exact ⟨d', by simpa using e', h'⟩
theorem dpa_get' : ∀ {ds : List PyData} {vs : List V} {i : Nat} {d : PyData}, DpAll K H vs ds → ds[i]? = some d → ∃ v, vs[i]? = some v ∧ Dp K H v d
  | [], _, i, v, h, e => by simp at e
  | d :: ds, _, 0, v, h, e => by
    cases h with
    | cons h1 h2 => simp at e; subst e; exact ⟨_, rfl, h1⟩
  | d :: ds, _, i + 1, v, h, e => by
    cases h with
    | cons h1 h2 =>
      obtain ⟨d', e', h'⟩ := dpa_get' (i := i) h2 (by simpa using e)
      exact ⟨d', by simpa using e', h'⟩
theorem dpa_app : ∀ {ds es : List PyData} {vs ws : List V}, DpAll K H vs ds → DpAll K H ws es → DpAll K H (vs ++ ws) (ds ++ es)
  | [], _, _, _, h, g => by cases h; exact g
  | _ :: _, _, _, _, h, g => by
    cases h with
    | cons h1 h2 => exact .cons h1 (dpa_app h2 g)
theorem dpa_snoc {ds : List PyData} {vs : List V} {d : PyData} {v : V} (h : DpAll K H vs ds) (g : Dp K H v d) : DpAll K H (vs ++ [v]) (ds ++ [d]) := dpa_app h (.cons g .nil)
theorem dpa_rev : ∀ {ds : List PyData} {vs : List V}, DpAll K H vs ds → DpAll K H vs.reverse ds.reverse
  | [], _, h => by cases h; exact .nil
  | _ :: _, _, h => by
    cases h with
    | cons h1 h2 =>
      rw [List.reverse_cons, List.reverse_cons]
      exact dpa_snoc (dpa_rev h2) h1
theorem dpa_ints : ∀ {ns : List Int} {vs : List V}, DpAll K H vs (ns.map PyData.int) → vs = ns.map V.int
  | [], _, h => by cases h; rfl
  | n :: ns, _, h => by
    rw [List.map_cons] at h
    cases h with
    | cons h1 h2 =>
      cases h1
      rw [List.map_cons, dpa_ints h2]
theorem dpa_of_ints (K : PySem.W.Frag) (H : Hp) : ∀ ns : List Int, DpAll K H (ns.map V.int) (ns.map PyData.int)
  | [] => .nil
  | n :: ns => .cons (.int n) (dpa_of_ints K H ns)
theorem dpa_bools : ∀ {bs : List Bool} {vs : List V}, DpAll K H vs (bs.map PyData.bool) → vs = bs.map V.bl
  | [], _, h => by cases h; rfl
  | n :: ns, _, h => by
    rw [List.map_cons] at h
    cases h with
    | cons h1 h2 =>
      cases h1
      rw [List.map_cons, dpa_bools h2]
theorem dpa_strs : ∀ {xs : List Str} {vs : List V}, DpAll K H vs (xs.map PyData.str) → vs = xs.map V.str
  | [], _, h => by cases h; rfl
  | n :: ns, _, h => by
    rw [List.map_cons] at h
    cases h with
    | cons h1 h2 =>
      cases h1
      rw [List.map_cons, dpa_strs h2]
theorem dpa_of_strs (K : PySem.W.Frag) (H : Hp) : ∀ ns : List Str, DpAll K H (ns.map V.str) (ns.map PyData.str)
  | [] => .nil
  | n :: ns => .cons (.str n) (dpa_of_strs K H ns)
end

/-! ### the heap without what may change -/
def cut (ms : List Addr) (H : Hp) : Hp := fun a => if a ∈ ms then none else H a
theorem cut_out {ms : List Addr} {H : Hp} {a : Addr} (h : a ∉ ms) : cut ms H a = H a := by unfold cut; rw [if_neg h]
theorem cut_in {ms : List Addr} {H : Hp} {a : Addr} (h : a ∈ ms) : cut ms H a = none := by unfold cut; rw [if_pos h]
theorem cut_le {ms : List Addr} {H : Hp} : Same (cut ms H) H := fun a o e => by
  by_cases h : a ∈ ms
  · rw [cut_in h] at e; cases e
  · rwa [cut_out h] at e
theorem cut_cons {ms : List Addr} {H : Hp} {l : Addr} : Same (cut (l :: ms) H) (cut ms H) := fun a o e => by
  by_cases h : a ∈ l :: ms
  · rw [cut_in h] at e; cases e
  · rw [cut_out h] at e
    rw [cut_out fun z => h (List.mem_cons_of_mem _ z)]
    exact e
/-- what is outside of ws stays -/
def XW (ws : List Addr) (H H' : Hp) : Prop := ∀ a o, a ∉ ws → H a = some o → H' a = some o
theorem XW.refl {ws : List Addr} (H : Hp) : XW ws H H := fun _ _ _ e => e
theorem XW.trans {ws : List Addr} {H H1 H2 : Hp} (a : XW ws H H1) (b : XW ws H1 H2) : XW ws H H2 := fun x o n e => b x o n (a x o n e)
theorem XW.of_same {ws : List Addr} {H H' : Hp} (s : Same H H') : XW ws H H' := fun a o _ e => s a o e
theorem XW.cut {ws ms : List Addr} {H H' : Hp} (x : XW ws H H') (sub : ∀ a ∈ ws, a ∈ ms) : Same (cut ms H) (cut ms H') := fun a o e => by
  by_cases h : a ∈ ms
  · rw [cut_in h] at e; cases e
  · rw [cut_out h] at e ⊢
    exact x a o (fun z => h (sub a z)) e
/-- a new object may be put where nothing stood -/
theorem XW.put {ws : List Addr} {H H' : Hp} {p : Addr} {o : HO} (x : XW ws H H') (h : H p = none) : XW ws H (upd H' p o) := fun a u n e => by
  rw [upd_ne (ne_of_none e h)]
  exact x a u n e
theorem XW.same {H H' : Hp} (x : XW [] H H') : Same H H' := fun a o e => x a o (by simp) e
def Live (ms : List Addr) (H : Hp) : Prop := ∀ a ∈ ms, ∃ o, H a = some o
theorem Live.fresh {ms : List Addr} {H : Hp} {p : Addr} (l : Live ms H) (h : H p = none) : p ∉ ms := fun z => by
  obtain ⟨o, e⟩ := l p z
  rw [e] at h; cases h
theorem Live.same {ms : List Addr} {H H' : Hp} (l : Live ms H) (s : Same H H') : Live ms H' := fun a z => by
  obtain ⟨o, e⟩ := l a z
  exact ⟨o, s _ _ e⟩
theorem Live.put {ms : List Addr} {H : Hp} {p : Addr} {o : HO} (l : Live ms H) : Live (p :: ms) (upd H p o) := fun a z => by
  by_cases h : a = p
  · subst h; exact ⟨o, upd_same⟩
  · rw [upd_ne h]
    rcases List.mem_cons.mp z with e | e
    · exact absurd e h
    · exact l a e
theorem Live.upd {ms : List Addr} {H : Hp} {p : Addr} {o : HO} (l : Live ms H) : Live ms (upd H p o) := fun a z => by
  by_cases h : a = p
  · subst h; exact ⟨o, upd_same⟩
  · rw [upd_ne h]; exact l a z
/-- data over the heap without ms stays where an object at a place of ms, or at a new place, is put -/
theorem cut_put {ms : List Addr} {H : Hp} {p : Addr} {o : HO} (h : p ∈ ms ∨ H p = none) : Same (cut ms H) (cut ms (upd H p o)) := fun a u e => by
  by_cases hm : a ∈ ms
  · rw [cut_in hm] at e; cases e
  · rw [cut_out hm] at e ⊢
    rw [upd_ne]
    · exact e
    · intro z
      subst z
      rcases h with h | h
      · exact hm h
      · rw [h] at e; cases e
/-- the same where p is left out besides -/
theorem cut_drop {ms : List Addr} {H : Hp} {p : Addr} {o : HO} : Same (cut (p :: ms) H) (cut (p :: ms) (upd H p o)) := cut_put (.inl List.mem_cons_self)

/-! ### slots -/
inductive Sl where
  | emp | dat (d : PyData) | raw (v : V)
def Sl.ok (K : PySem.W.Frag) (Hc : Hp) : Sl → V → Prop
  | .emp, _ => False
  | .dat d, v => Dp K Hc v d
  | .raw w, v => v = w
theorem Sl.ok.mono {K : PySem.W.Frag} {H H' : Hp} {s : Sl} {v : V} (h : s.ok K H v) (m : Same H H') : s.ok K H' v := by
  cases s with
  | emp => exact h
  | dat d => exact dp_mono m d v h
  | raw w => exact h
def SlO (K : PySem.W.Frag) (Hc : Hp) : Sl → Option V → Prop
  | .emp, _ => True
  | s, some v => s.ok K Hc v
  | _, none => False
theorem SlO.mono {K : PySem.W.Frag} {H H' : Hp} {s : Sl} {v : Option V} (h : SlO K H s v) (m : Same H H') : SlO K H' s v := by
  cases s <;> cases v <;> first
    | trivial
    | exact Sl.ok.mono (s := .dat _) h m
    | exact Sl.ok.mono (s := .raw _) h m
    | exact h
theorem SlO.of {K : PySem.W.Frag} {H : Hp} {s : Sl} {v : V} (h : s.ok K H v) : SlO K H s (some v) := by
  cases s <;> first | trivial | exact h
theorem SlO.back {K : PySem.W.Frag} {H : Hp} {s : Sl} {o : Option V} (h : SlO K H s o) (n : s ≠ .emp) : ∃ v, o = some v ∧ s.ok K H v := by
  cases s with
  | emp => exact absurd rfl n
  | dat d =>
    cases o with
    | none => exact False.elim h
    | some v => exact ⟨v, rfl, h⟩
  | raw w =>
    cases o with
    | none => exact False.elim h
    | some v => exact ⟨v, rfl, h⟩
/-- the slots hold what is told of them -/
inductive EnvOk (K : PySem.W.Frag) (Hc : Hp) : List Sl → St → Prop
  | nil : EnvOk K Hc [] []
  | cons {s : Sl} {o : Option V} {ρ : List Sl} {σ : St} : SlO K Hc s o → EnvOk K Hc ρ σ → EnvOk K Hc (s :: ρ) (o :: σ)
section
variable {K : PySem.W.Frag} {H H' : Hp}
theorem EnvOk.mono (m : Same H H') : ∀ {ρ : List Sl} {σ : St}, EnvOk K H ρ σ → EnvOk K H' ρ σ
  | _, _, .nil => .nil
  | _, _, .cons h t => .cons (h.mono m) (EnvOk.mono m t)
theorem EnvOk.get : ∀ {ρ : List Sl} {σ : St} {i : Nat} {s : Sl}, EnvOk K H ρ σ → ρ[i]? = some s → s ≠ .emp → ∃ v, σ[i]? = some (some v) ∧ s.ok K H v
  | _, _, _, _, .nil, e, _ => by simp at e
  | _, _, 0, s, .cons (o := o) h _, e, n => by
    have e' := Option.some.inj e
    rw [e'] at h
    obtain ⟨v, rfl, h2⟩ := h.back n
    exact ⟨v, rfl, h2⟩
  | _, _, i + 1, s, .cons _ t, e, n => by
    obtain ⟨v, h1, h2⟩ := EnvOk.get (i := i) t (by simpa using e) n
    exact ⟨v, by simpa using h1, h2⟩
theorem EnvOk.set {s : Sl} {o : Option V} (h : SlO K H s o) : ∀ {ρ : List Sl} {σ : St} (i : Nat), EnvOk K H ρ σ → EnvOk K H (ρ.set i s) (σ.set i o)
  | _, _, _, .nil => .nil
  | _, _, 0, .cons _ t => .cons h t
  | _, _, i + 1, .cons g t => .cons g (EnvOk.set h i t)
theorem EnvOk.emp : ∀ (n : Nat), EnvOk K H (List.replicate n .emp) (List.replicate n none)
  | 0 => .nil
  | n + 1 => .cons trivial (EnvOk.emp n)
theorem EnvOk.app : ∀ {ρ ρ' : List Sl} {σ σ' : St}, EnvOk K H ρ σ → EnvOk K H ρ' σ' → EnvOk K H (ρ ++ ρ') (σ ++ σ')
  | _, _, _, _, .nil, g => g
  | _, _, _, _, .cons h t, g => .cons h (EnvOk.app t g)
end
/-- less is told -/
inductive Le : List Sl → List Sl → Prop
  | nil : Le [] []
  | same {s : Sl} {a b : List Sl} : Le a b → Le (s :: a) (s :: b)
  | emp {s : Sl} {a b : List Sl} : Le a b → Le (.emp :: a) (s :: b)
theorem Le.refl : ∀ a : List Sl, Le a a
  | [] => .nil
  | _ :: a => .same (Le.refl a)
theorem EnvOk.le {K : PySem.W.Frag} {H : Hp} : ∀ {a b : List Sl} {σ : St}, Le a b → EnvOk K H b σ → EnvOk K H a σ
  | _, _, _, .nil, .nil => .nil
  | _, _, _, .same l, .cons h t => .cons h (EnvOk.le l t)
  | _, _, _, .emp l, .cons _ t => .cons trivial (EnvOk.le l t)
def wipeR (ρ : List Sl) : List Nat → List Sl
  | [] => ρ
  | v :: vs => (wipeR ρ vs).set v .emp
theorem EnvOk.wipe {K : PySem.W.Frag} {H : Hp} {ρ : List Sl} {σ : St} (h : EnvOk K H ρ σ) : ∀ vs : List Nat, EnvOk K H (wipeR ρ vs) (wipe σ vs)
  | [] => h
  | v :: vs => EnvOk.set (s := .emp) trivial v (EnvOk.wipe h vs)
inductive OkAll (K : PySem.W.Frag) (Hc : Hp) : List Sl → List V → Prop
  | nil : OkAll K Hc [] []
  | cons {s : Sl} {v : V} {ss : List Sl} {vs : List V} : s.ok K Hc v → OkAll K Hc ss vs → OkAll K Hc (s :: ss) (v :: vs)
theorem OkAll.mono {K : PySem.W.Frag} {H H' : Hp} (m : Same H H') : ∀ {ss : List Sl} {vs : List V}, OkAll K H ss vs → OkAll K H' ss vs
  | _, _, .nil => .nil
  | _, _, .cons h t => .cons (h.mono m) (OkAll.mono m t)
theorem OkAll.dats {K : PySem.W.Frag} {H : Hp} : ∀ {ds : List PyData} {vs : List V}, OkAll K H (ds.map .dat) vs → DpAll K H vs ds
  | [], _, h => by cases h; exact .nil
  | d :: ds, _, h => by
    rw [List.map_cons] at h
    cases h with
    | cons h1 h2 => exact .cons h1 (OkAll.dats h2)

/-! ### the world around: what may be written, what holds of it -/
structure Wd where
  ws : List Addr
  P : Hp → Prop
  sup : ∀ H H' : Hp, (∀ a ∈ ws, ∀ o, H a = some o → H' a = some o) → (∀ a f, H a = some (.ext f) → H' a = some (.ext f)) → P H → P H'
  /-- what stands among the data all the while -/
  C : Hp → Prop := fun _ => True
  mono : ∀ H H' : Hp, Same H H' → C H → C H' := by intros; trivial
/-- nothing is written -/
def W0 : Wd := ⟨[], fun _ => True, fun _ _ _ _ _ => trivial, fun _ => True, fun _ _ _ _ => trivial⟩
/-- a list or a dict of one's own is nothing foreign -/
theorem nx_lst {H : Hp} {l : Addr} {xs : List V} (h : H l = some (.lst xs)) (f : Heap → Prop) : H l ≠ some (.ext f) := fun z => by rw [h] at z; cases z
theorem nx_dk {H : Hp} {l : Addr} {xs : List (Key × V)} (h : H l = some (.dK xs)) (f : Heap → Prop) : H l ≠ some (.ext f) := fun z => by rw [h] at z; cases z
theorem nx_frz {H : Hp} {l : Addr} {o : Obj} {u : HO} (h : H l = some (.frz o u)) (f : Heap → Prop) : H l ≠ some (.ext f) := fun z => by rw [h] at z; cases z
/-- what one looks back to: the heap at the def's entry; the heap since which the data stands -/
structure Bs where
  h0 : Hp
  hb : Hp
structure At (K : PySem.W.Frag) (W : Wd) (ms : List Addr) (B : Bs) (ρ : List Sl) (σ : St) (H : Hp) : Prop where
  sub : ∀ a ∈ W.ws, a ∈ ms
  live : Live ms H
  env : EnvOk K (cut ms H) ρ σ
  p : W.P H
  xw : XW W.ws B.h0 H
  st : Same (cut ms B.hb) (cut ms H)
  c : W.C (cut ms H)
section
variable {K : PySem.W.Frag} {W : Wd} {ms : List Addr} {B : Bs} {H H' : Hp} {ρ ρ' : List Sl} {σ σ' : St}
theorem At.go (h : At K W ms B ρ σ H) (x : XW W.ws H H') (l : Live ms H') (p : W.P H') : At K W ms B ρ σ H' :=
  ⟨h.sub, l, h.env.mono (x.cut h.sub), p, h.xw.trans x, h.st.trans (x.cut h.sub), W.mono _ _ (x.cut h.sub) h.c⟩
theorem At.same (h : At K W ms B ρ σ H) (s : Same H H') : At K W ms B ρ σ H' :=
  h.go (.of_same s) (h.live.same s) (W.sup _ _ (fun a _ o e => s a o e) (fun a f e => s a _ e) h.p)
theorem At.set (h : At K W ms B ρ σ H) {s : Sl} {v : V} (hv : s.ok K (cut ms H) v) (i : Nat) : At K W ms B (ρ.set i s) (σ.set i (some v)) H :=
  ⟨h.sub, h.live, h.env.set (SlO.of hv) i, h.p, h.xw, h.st, h.c⟩
theorem At.le (h : At K W ms B ρ σ H) (l : Le ρ' ρ) : At K W ms B ρ' σ H := ⟨h.sub, h.live, h.env.le l, h.p, h.xw, h.st, h.c⟩
theorem At.base (h : At K W ms B ρ σ H) : At K W ms ⟨H, H⟩ ρ σ H := ⟨h.sub, h.live, h.env, h.p, .refl H, Same.refl _, h.c⟩
/-- the data is looked at from here on -/
theorem At.re (h : At K W ms B ρ σ H) : At K W ms ⟨B.h0, H⟩ ρ σ H := ⟨h.sub, h.live, h.env, h.p, h.xw, Same.refl _, h.c⟩
theorem At.un (h : At K W ms B ρ σ H) (g : At K W ms ⟨B.h0, H⟩ ρ' σ' H') : At K W ms B ρ' σ' H' := ⟨g.sub, g.live, g.env, g.p, g.xw, h.st.trans g.st, g.c⟩
theorem At.wipe (h : At K W ms B ρ σ H) (vs : List Nat) : At K W ms B (wipeR ρ vs) (L2.wipe σ vs) H := ⟨h.sub, h.live, h.env.wipe vs, h.p, h.xw, h.st, h.c⟩
theorem At.fresh (h : At K W ms B ρ σ H) {l : Addr} (hl : H l = none) : B.h0 l = none ∧ l ∉ ms ∧ l ∉ W.ws := by
  have hm : l ∉ ms := h.live.fresh hl
  have hw : l ∉ W.ws := fun z => hm (h.sub l z)
  refine ⟨?_, hm, hw⟩
  cases q : B.h0 l with
  | none => rfl
  | some o =>
    rw [h.xw l o hw q] at hl
    cases hl
/-- a new object of one's own stands at l: told apart from the data -/
theorem At.own (h : At K W ms B ρ σ H) {l : Addr} {o : HO} (hl : H l = none) : At K W (l :: ms) B ρ σ (upd H l o) := by
  obtain ⟨h0, hm, hw⟩ := h.fresh hl
  have key : ∀ {G : Hp}, Same (cut ms G) (cut ms H) → Same (cut ms G) (cut (l :: ms) (upd H l o)) := fun {G} s a u e => by
    have e1 := s a u e
    have na : a ≠ l := fun z => by
      subst z
      rw [cut_out hm, hl] at e1; cases e1
    have nm : a ∉ ms := fun z => by rw [cut_in z] at e; cases e
    rw [cut_out nm] at e1
    rw [cut_out (by simp [na, nm]), upd_ne na]
    exact e1
  refine ⟨fun a z => List.mem_cons_of_mem _ (h.sub a z), h.live.put, h.env.mono (key (Same.refl _)), W.sup _ _ (fun a z o e => ?_) (fun a f e => by rw [upd_ne (fun q => by subst q; rw [hl] at e; cases e)]; exact e) h.p, h.xw.put h0, fun a u e => key h.st a u (cut_cons a u e), W.mono _ _ (key (Same.refl _)) h.c⟩
  rw [upd_ne (fun q => by subst q; exact hw z)]
  exact e
/-- one's own object is written -/
theorem At.write (h : At K W ms B ρ σ H) {l : Addr} {o : HO} (hl : l ∈ ms) (hw : l ∉ W.ws) (h0 : B.h0 l = none) (hx : ∀ f, H l ≠ some (.ext f) := by first | (apply nx_lst; assumption) | (apply nx_dk; assumption) | (apply nx_frz; assumption)) : At K W ms B ρ σ (upd H l o) := by
  refine ⟨h.sub, h.live.upd, h.env.mono (cut_put (.inl hl)), W.sup _ _ (fun a z o e => ?_) (fun a f e => by rw [upd_ne (fun q => by subst q; exact hx f e)]; exact e) h.p, h.xw.put h0, h.st.trans (cut_put (.inl hl)), W.mono _ _ (cut_put (.inl hl)) h.c⟩
  rw [upd_ne (fun q => by subst q; exact hw z)]
  exact e
end

/-! ### what evaluates to what -/
def Ev (K : PySem.W.Frag) (W : Wd) (te : TE) (ρ : List Sl) (s : Sl) : Prop :=
  ∀ (ms : List Addr) (H0 : Bs) (σ : St) (H : Hp), At K W ms H0 ρ σ H → ∀ Q : VK, (∀ v H', At K W ms H0 ρ σ H' → XW W.ws H H' → s.ok K (cut ms H') v → Q v H') → te σ H Q
def EvT (K : PySem.W.Frag) (W : Wd) (tt : TT) (ρ : List Sl) (b : Bool) : Prop :=
  ∀ (ms : List Addr) (H0 : Bs) (σ : St) (H : Hp), At K W ms H0 ρ σ H → ∀ Q : Bool → Hp → Prop, (∀ H', At K W ms H0 ρ σ H' → XW W.ws H H' → Q b H') → tt σ H Q
def EvA (K : PySem.W.Frag) (W : Wd) (ta : TA) (ρ : List Sl) (ss : List Sl) : Prop :=
  ∀ (ms : List Addr) (H0 : Bs) (σ : St) (H : Hp), At K W ms H0 ρ σ H → ∀ Q : List V → Hp → Prop, (∀ vs H', At K W ms H0 ρ σ H' → XW W.ws H H' → OkAll K (cut ms H') ss vs → Q vs H') → ta σ H Q
/-- .. to one of several things -/
def En (K : PySem.W.Frag) (W : Wd) (te : TE) (ρ : List Sl) (Φ : Sl → Prop) : Prop :=
  ∀ (ms : List Addr) (H0 : Bs) (σ : St) (H : Hp), At K W ms H0 ρ σ H → ∀ Q : VK, (∀ s v H', Φ s → At K W ms H0 ρ σ H' → XW W.ws H H' → s.ok K (cut ms H') v → Q v H') → te σ H Q
def EnA (K : PySem.W.Frag) (W : Wd) (ta : TA) (ρ : List Sl) (Φ : List Sl → Prop) : Prop :=
  ∀ (ms : List Addr) (H0 : Bs) (σ : St) (H : Hp), At K W ms H0 ρ σ H → ∀ Q : List V → Hp → Prop, (∀ ss vs H', Φ ss → At K W ms H0 ρ σ H' → XW W.ws H H' → OkAll K (cut ms H') ss vs → Q vs H') → ta σ H Q
def EnT (K : PySem.W.Frag) (W : Wd) (tt : TT) (ρ : List Sl) (Φ : Bool → Prop) : Prop :=
  ∀ (ms : List Addr) (H0 : Bs) (σ : St) (H : Hp), At K W ms H0 ρ σ H → ∀ Q : Bool → Hp → Prop, (∀ b H', Φ b → At K W ms H0 ρ σ H' → XW W.ws H H' → Q b H') → tt σ H Q
end Fw

/-! The frame, 2: rules of evaluation. -/
namespace Fw
open PySem L2

section
variable {K : PySem.W.Frag} {W : Wd} {ms : List Addr} {H0 : Bs} {H H' : Hp} {ρ ρ' : List Sl} {σ σ' : St}
/-- back behind a stretch in which more stood apart -/
theorem At.back (h : At K W ms H0 ρ σ H) {ms' : List Addr} {B' : Bs} {ρ' : List Sl} {σ' : St} (g : At K W ms' B' ρ' σ' H') (e : B'.h0 = H) (hm : ∀ a ∈ ms, a ∈ ms') : At K W ms H0 ρ σ H' := by
  have x := g.xw
  rw [e] at x
  exact h.go x (fun a z => g.live a (hm a z)) g.p

def EvD (K : PySem.W.Frag) (W : Wd) (ta : TA) (ρ : List Sl) (ds : List PyData) : Prop :=
  ∀ (ms : List Addr) (H0 : Bs) (σ : St) (H : Hp), At K W ms H0 ρ σ H → ∀ Q : List V → Hp → Prop, (∀ vs H', At K W ms H0 ρ σ H' → XW W.ws H H' → DpAll K (cut ms H') vs ds → Q vs H') → ta σ H Q
abbrev Evd (K : PySem.W.Frag) (W : Wd) (te : TE) (ρ : List Sl) (d : PyData) : Prop := Ev K W te ρ (.dat d)

variable {ta tb tc te tx : TE} {tt t u : TT} {s s1 s2 s3 : Sl} {d e : PyData} {v x y z : V}

theorem ev_eq (h : Ev K W te ρ s) (e : s = s1) : Ev K W te ρ s1 := e ▸ h
theorem evd_eq (h : Evd K W te ρ d) (q : d = e) : Evd K W te ρ e := q ▸ h
theorem et_eq {a b : Bool} (h : EvT K W t ρ a) (e : a = b) : EvT K W t ρ b := e ▸ h
theorem ev_var {i : Nat} (h : ρ[i]? = some s) (n : s ≠ .emp) : Ev K W (tVar i) ρ s := fun ms H0 σ H a Q q => by
  obtain ⟨v, e, o⟩ := a.env.get h n
  exact ⟨v, e, q v H a (.refl H) o⟩
theorem evd_var {i : Nat} (h : ρ[i]? = some (.dat d)) : Evd K W (tVar i) ρ d := ev_var h (by intro q; cases q)
theorem evr_var {i : Nat} (h : ρ[i]? = some (.raw v)) : Ev K W (tVar i) ρ (.raw v) := ev_var h (by intro q; cases q)
theorem ev_c : Ev K W (tC v) ρ (.raw v) := fun ms H0 σ H a Q q => q v H a (.refl H) rfl
theorem ev_cd (h : ∀ H, Dp K H v d) : Evd K W (tC v) ρ d := fun ms H0 σ H a Q q => q v H a (.refl H) (h _)
theorem ev_int {i : Int} : Evd K W (tC (.int i)) ρ (.int i) := ev_cd fun _ => .int i
theorem ev_str {i : Str} : Evd K W (tC (.str i)) ρ (.str i) := ev_cd fun _ => .str i
theorem ev_bl {i : Bool} : Evd K W (tC (.bl i)) ρ (.bool i) := ev_cd fun _ => .bl i
theorem ev_non : Evd K W (tC .non) ρ .none := ev_cd fun _ => .non

/-- by values -/
def Rs (K : PySem.W.Frag) (r : R2) (s1 s2 s : Sl) : Prop :=
  ∀ (ms : List Addr) (H : Hp) (x y : V), Live ms H → s1.ok K (cut ms H) x → s2.ok K (cut ms H) y → ∀ Q : VK, (∀ v H', Same H H' → s.ok K (cut ms H') v → Q v H') → r x y H Q
theorem ev_op {r : R2} (ha : Ev K W ta ρ s1) (hb : Ev K W tb ρ s2) (hr : Rs K r s1 s2 s) : Ev K W (tOp r ta tb) ρ s := fun ms H0 σ H h Q q =>
  ha ms H0 σ H h _ fun x H1 h1 x1 o1 => hb ms H0 σ H1 h1 _ fun y H2 h2 x2 o2 =>
    hr ms H2 x y h2.live (o1.mono (x2.cut h2.sub)) o2 Q fun v H3 s3 o3 => q v H3 (h2.same s3) ((x1.trans x2).trans (.of_same s3)) o3
theorem rs_I0 {g : Int → Int → V} {i j : Int} (hd : ∀ H, Dp K H (g i j) d) : Rs K (rI0 g) (.dat (.int i)) (.dat (.int j)) (.dat d) := fun ms H x y _ hx hy Q q => by
  cases hx; cases hy
  exact ⟨i, j, rfl, rfl, q _ H (Same.refl H) (hd _)⟩
theorem rs_I {C : Int → Int → Prop} {g : Int → Int → V} {i j : Int} (hd : ∀ H, Dp K H (g i j) d) (hc : C i j) : Rs K (rI C g) (.dat (.int i)) (.dat (.int j)) (.dat d) := fun ms H x y _ hx hy Q q => by
  cases hx; cases hy
  exact ⟨i, j, rfl, rfl, hc, q _ H (Same.refl H) (hd _)⟩
theorem ev_add {i j : Int} (ha : Evd K W ta ρ (.int i)) (hb : Evd K W tb ρ (.int j)) : Evd K W (tOp (rI0 fun i j => .int (i + j)) ta tb) ρ (.int (i + j)) := ev_op ha hb (rs_I0 fun _ => .int _)
theorem ev_sub {i j : Int} (ha : Evd K W ta ρ (.int i)) (hb : Evd K W tb ρ (.int j)) : Evd K W (tOp (rI0 fun i j => .int (i - j)) ta tb) ρ (.int (i - j)) := ev_op ha hb (rs_I0 fun _ => .int _)
theorem ev_mul {i j : Int} (ha : Evd K W ta ρ (.int i)) (hb : Evd K W tb ρ (.int j)) (hc : CMul i j) : Evd K W (tOp (rI CMul fun i j => .int (i * j)) ta tb) ρ (.int (i * j)) := ev_op ha hb (rs_I (fun _ => .int _) hc)
theorem ev_mulW {i j : Int} (ha : Evd K W ta ρ (.int i)) (hb : Evd K W tb ρ (.int j)) (hc : CMulW i j) : Evd K W (tOp (rI CMulW fun i j => .int (i * j)) ta tb) ρ (.int (i * j)) := ev_op ha hb (rs_I (fun _ => .int _) hc)
theorem ev_divW {i j : Int} (ha : Evd K W ta ρ (.int i)) (hb : Evd K W tb ρ (.int j)) (hc : CDivW i j) : Evd K W (tOp (rI CDivW fun i j => .int (i / j)) ta tb) ρ (.int (i / j)) := ev_op ha hb (rs_I (fun _ => .int _) hc)
theorem ev_div {i j : Int} (ha : Evd K W ta ρ (.int i)) (hb : Evd K W tb ρ (.int j)) (hc : CDiv i j) : Evd K W (tOp (rI CDiv fun i j => .int (i / j)) ta tb) ρ (.int (i / j)) := ev_op ha hb (rs_I (fun _ => .int _) hc)
theorem ev_mod {i j : Int} (ha : Evd K W ta ρ (.int i)) (hb : Evd K W tb ρ (.int j)) (hc : 0 < j) : Evd K W (tOp (rI (fun _ j => 0 < j) fun i j => .int (i % j)) ta tb) ρ (.int (i % j)) := ev_op ha hb (rs_I (C := fun _ j => 0 < j) (fun _ => .int _) hc)
theorem ev_pow {i j : Int} (ha : Evd K W ta ρ (.int i)) (hb : Evd K W tb ρ (.int j)) (hc : CPow i j) : Evd K W (tOp (rI CPow fun i j => .int (i ^ j.toNat)) ta tb) ρ (.int (i ^ j.toNat)) := ev_op ha hb (rs_I (fun _ => .int _) hc)
theorem ev_lt {i j : Int} (ha : Evd K W ta ρ (.int i)) (hb : Evd K W tb ρ (.int j)) : Evd K W (tOp (rI0 fun i j => .bl (decide (i < j))) ta tb) ρ (.bool (decide (i < j))) := ev_op ha hb (rs_I0 fun _ => .bl _)
theorem ev_le {i j : Int} (ha : Evd K W ta ρ (.int i)) (hb : Evd K W tb ρ (.int j)) : Evd K W (tOp (rI0 fun i j => .bl (decide (i ≤ j))) ta tb) ρ (.bool (decide (i ≤ j))) := ev_op ha hb (rs_I0 fun _ => .bl _)
theorem ev_gt {i j : Int} (ha : Evd K W ta ρ (.int i)) (hb : Evd K W tb ρ (.int j)) : Evd K W (tOp (rI0 fun i j => .bl (decide (j < i))) ta tb) ρ (.bool (decide (j < i))) := ev_op ha hb (rs_I0 fun _ => .bl _)
theorem ev_ge {i j : Int} (ha : Evd K W ta ρ (.int i)) (hb : Evd K W tb ρ (.int j)) : Evd K W (tOp (rI0 fun i j => .bl (decide (j ≤ i))) ta tb) ρ (.bool (decide (j ≤ i))) := ev_op ha hb (rs_I0 fun _ => .bl _)
theorem dec_int {i j : Int} : decide (V.int i = V.int j) = decide (i = j) := by
  by_cases h : i = j
  · subst h; rw [decide_eq_true rfl, decide_eq_true rfl]
  · rw [decide_eq_false h, decide_eq_false fun q => h (by injection q)]
theorem dec_str {i j : Str} : decide (V.str i = V.str j) = decide (i = j) := by
  by_cases h : i = j
  · subst h; rw [decide_eq_true rfl, decide_eq_true rfl]
  · rw [decide_eq_false h, decide_eq_false fun q => h (by injection q)]
theorem ev_eqI {i j : Int} (ha : Evd K W ta ρ (.int i)) (hb : Evd K W tb ρ (.int j)) : Evd K W (tOp rEq ta tb) ρ (.bool (decide (i = j))) := ev_op ha hb fun ms H x y _ hx hy Q q => by
  cases hx; cases hy
  exact ⟨rfl, q _ H (Same.refl H) (by rw [dec_int]; exact .bl _)⟩
theorem ev_neI {i j : Int} (ha : Evd K W ta ρ (.int i)) (hb : Evd K W tb ρ (.int j)) : Evd K W (tOp rNe ta tb) ρ (.bool (!decide (i = j))) := ev_op ha hb fun ms H x y _ hx hy Q q => by
  cases hx; cases hy
  exact ⟨rfl, q _ H (Same.refl H) (by rw [dec_int]; exact .bl _)⟩
theorem ev_eqS {i j : Str} (ha : Evd K W ta ρ (.str i)) (hb : Evd K W tb ρ (.str j)) : Evd K W (tOp rEq ta tb) ρ (.bool (decide (i = j))) := ev_op ha hb fun ms H x y _ hx hy Q q => by
  cases hx; cases hy
  exact ⟨rfl, q _ H (Same.refl H) (by rw [dec_str]; exact .bl _)⟩
theorem ev_neS {i j : Str} (ha : Evd K W ta ρ (.str i)) (hb : Evd K W tb ρ (.str j)) : Evd K W (tOp rNe ta tb) ρ (.bool (!decide (i = j))) := ev_op ha hb fun ms H x y _ hx hy Q q => by
  cases hx; cases hy
  exact ⟨rfl, q _ H (Same.refl H) (by rw [dec_str]; exact .bl _)⟩
theorem atI_map {α β : Type} {xs : List α} {ys : List β} {R : α → β → Prop} (hl : xs.length = ys.length) (h : ∀ (i : Nat) b, ys[i]? = some b → ∃ a, xs[i]? = some a ∧ R a b) {i : Int} {b : β} (e : atI ys i = some b) : ∃ a, atI xs i = some a ∧ R a b := by
  unfold atI at e ⊢
  rw [hl]
  cases q : ixN ys.length i with
  | none => rw [q] at e; cases e
  | some j =>
    rw [q] at e
    exact h j b e
theorem rs_ixL {ds : List PyData} {i : Int} (h : atI ds i = some d) : Rs K (rIxL K) (.dat (.list ds)) (.dat (.int i)) (.dat d) := fun ms H x y _ hx hy Q q => by
  cases hy
  cases hx with
  | lst hs ha =>
    obtain ⟨v, e, g⟩ := atI_map (R := fun v d => Dp K (cut ms H) v d) (dpa_len ha) (fun i b e => dpa_get' ha e) h
    exact ⟨_, _, i, v, rfl, rfl, sql_mono cut_le hs, e, q v H (Same.refl H) g⟩
theorem rs_ixT {ds : List PyData} {i : Int} (h : atI ds i = some d) : Rs K (rIxT K) (.dat (.tuple ds)) (.dat (.int i)) (.dat d) := fun ms H x y _ hx hy Q q => by
  cases hy
  cases hx with
  | tup hs ha =>
    obtain ⟨v, e, g⟩ := atI_map (R := fun v d => Dp K (cut ms H) v d) (dpa_len ha) (fun i b e => dpa_get' ha e) h
    exact ⟨_, _, i, v, rfl, rfl, sqt_mono cut_le hs, e, q v H (Same.refl H) g⟩
theorem ev_ixL {ds : List PyData} {i : Int} (ha : Evd K W ta ρ (.list ds)) (hb : Evd K W tb ρ (.int i)) (h : atI ds i = some d) : Evd K W (tOp (rIxL K) ta tb) ρ d := ev_op ha hb (rs_ixL h)
theorem ev_ixT {ds : List PyData} {i : Int} (ha : Evd K W ta ρ (.tuple ds)) (hb : Evd K W tb ρ (.int i)) (h : atI ds i = some d) : Evd K W (tOp (rIxT K) ta tb) ρ d := ev_op ha hb (rs_ixT h)
theorem ev_eqD (ha : Evd K W ta ρ d) (hb : Evd K W tb ρ e) (sd : SeqAt.shaped d = true) (se : SeqAt.shaped e = true) : Evd K W (tOp (rEqD K) ta tb) ρ (.bool (PyData.eqv d e)) := ev_op ha hb fun ms H x y _ hx hy Q q =>
  ⟨d, e, dp_mono cut_le _ _ hx, dp_mono cut_le _ _ hy, sd, se, q _ H (Same.refl H) (.bl _)⟩
theorem ev_neD (ha : Evd K W ta ρ d) (hb : Evd K W tb ρ e) (sd : SeqAt.shaped d = true) (se : SeqAt.shaped e = true) : Evd K W (tOp (rNeD K) ta tb) ρ (.bool (!PyData.eqv d e)) := ev_op ha hb fun ms H x y _ hx hy Q q =>
  ⟨d, e, dp_mono cut_le _ _ hx, dp_mono cut_le _ _ hy, sd, se, q _ H (Same.refl H) (.bl _)⟩

/-! tests and truth -/
theorem et_test {b : Bool} (h : Evd K W te ρ (.bool b)) : EvT K W (tTest te) ρ b := fun ms H0 σ H a Q q => h ms H0 σ H a _ fun v H1 h1 x1 o1 => by
  cases o1
  exact ⟨b, rfl, q H1 h1 x1⟩
theorem et_B {b : Bool} (h : Evd K W te ρ (.bool b)) : EvT K W (tB te) ρ b := fun ms H0 σ H a Q q => h ms H0 σ H a _ fun v H1 h1 x1 o1 => by
  cases o1
  exact ⟨b, rfl, q H1 h1 x1⟩
theorem et_yes : EvT K W tYes ρ true := fun ms H0 σ H a Q q => q H a (.refl H)
theorem et_and {a b : Bool} (h1 : EvT K W t ρ a) (h2 : a = true → EvT K W u ρ b) : EvT K W (tAnd t u) ρ (a && b) := fun ms H0 σ H h Q q => h1 ms H0 σ H h _ fun H1 g1 x1 => by
  cases a with
  | true =>
    show u σ H1 Q
    exact h2 rfl ms H0 σ H1 g1 Q fun H2 g2 x2 => q H2 g2 (x1.trans x2)
  | false =>
    show Q false H1
    exact q H1 g1 x1
theorem et_or {a b : Bool} (h1 : EvT K W t ρ a) (h2 : a = false → EvT K W u ρ b) : EvT K W (tOr t u) ρ (a || b) := fun ms H0 σ H h Q q => h1 ms H0 σ H h _ fun H1 g1 x1 => by
  cases a with
  | true =>
    show Q true H1
    exact q H1 g1 x1
  | false =>
    show u σ H1 Q
    exact h2 rfl ms H0 σ H1 g1 Q fun H2 g2 x2 => q H2 g2 (x1.trans x2)
theorem et_not {a : Bool} (h : EvT K W t ρ a) : EvT K W (tNot t) ρ (!a) := fun ms H0 σ H g Q q => h ms H0 σ H g _ fun H1 g1 x1 => q H1 g1 x1
theorem ev_andV {a b : Bool} (h1 : Evd K W ta ρ (.bool a)) (h2 : a = true → Evd K W tb ρ (.bool b)) : Evd K W (tAndV ta tb) ρ (.bool (a && b)) := fun ms H0 σ H h Q q => h1 ms H0 σ H h _ fun v H1 g1 x1 o1 => by
  cases o1
  refine ⟨a, rfl, ?_⟩
  cases a with
  | true =>
    show tb σ H1 Q
    exact h2 rfl ms H0 σ H1 g1 Q fun v H2 g2 x2 o2 => q v H2 g2 (x1.trans x2) o2
  | false =>
    show Q (.bl false) H1
    exact q _ H1 g1 x1 (.bl _)
theorem ev_orV {a b : Bool} (h1 : Evd K W ta ρ (.bool a)) (h2 : a = false → Evd K W tb ρ (.bool b)) : Evd K W (tOrV ta tb) ρ (.bool (a || b)) := fun ms H0 σ H h Q q => h1 ms H0 σ H h _ fun v H1 g1 x1 o1 => by
  cases o1
  refine ⟨a, rfl, ?_⟩
  cases a with
  | true =>
    show Q (.bl true) H1
    exact q _ H1 g1 x1 (.bl _)
  | false =>
    show tb σ H1 Q
    exact h2 rfl ms H0 σ H1 g1 Q fun v H2 g2 x2 o2 => q v H2 g2 (x1.trans x2) o2
theorem ev_notV {a : Bool} (h : Evd K W ta ρ (.bool a)) : Evd K W (tNotV ta) ρ (.bool (!a)) := fun ms H0 σ H g Q q => h ms H0 σ H g _ fun v H1 g1 x1 o1 => by
  cases o1
  exact ⟨a, rfl, q _ H1 g1 x1 (.bl _)⟩
theorem ev_if {b : Bool} (h : EvT K W t ρ b) (h1 : b = true → Ev K W ta ρ s) (h2 : b = false → Ev K W tb ρ s) : Ev K W (tIf t ta tb) ρ s := fun ms H0 σ H g Q q => h ms H0 σ H g _ fun H1 g1 x1 => by
  cases b with
  | true =>
    show ta σ H1 Q
    exact h1 rfl ms H0 σ H1 g1 Q fun v H2 g2 x2 o2 => q v H2 g2 (x1.trans x2) o2
  | false =>
    show tb σ H1 Q
    exact h2 rfl ms H0 σ H1 g1 Q fun v H2 g2 x2 o2 => q v H2 g2 (x1.trans x2) o2
/-- a ≤ b ≤ c -/
theorem ev_chain {p p' : Int → Int → Bool} {i j k : Int} (ha : Evd K W ta ρ (.int i)) (hb : Evd K W tb ρ (.int j)) (hc : Evd K W tc ρ (.int k)) :
    Evd K W (tChain (rI0 fun i j => .bl (p i j)) (rI0 fun i j => .bl (p' i j)) ta tb tc) ρ (.bool (p i j && p' j k)) := fun ms H0 σ H g Q q =>
  ha ms H0 σ H g _ fun x H1 g1 x1 o1 => hb ms H0 σ H1 g1 _ fun y H2 g2 x2 o2 => by
    cases o1; cases o2
    refine ⟨i, j, rfl, rfl, _, rfl, ?_⟩
    cases e : p i j with
    | true =>
      refine iteT (hc ms H0 σ H2 g2 _ fun z H3 g3 x3 o3 => ?_)
      cases o3
      exact ⟨j, k, rfl, rfl, q _ H3 g3 ((x1.trans x2).trans x3) (by rw [e, Bool.true_and]; exact .bl _)⟩
    | false => exact iteF (q _ H2 g2 (x1.trans x2) (by rw [e, Bool.false_and]; exact .bl _))

/-! arguments, displays -/
theorem ed_nil : EvD K W tNil ρ [] := fun ms H0 σ H g Q q => q [] H g (.refl H) .nil
theorem ed_cons {tr : TA} {ds : List PyData} (h : Evd K W ta ρ d) (hr : EvD K W tr ρ ds) : EvD K W (tCons ta tr) ρ (d :: ds) := fun ms H0 σ H g Q q =>
  h ms H0 σ H g _ fun x H1 g1 x1 o1 => hr ms H0 σ H1 g1 _ fun xs H2 g2 x2 o2 => q _ H2 g2 (x1.trans x2) (.cons (o1.mono (x2.cut g2.sub)) o2)
theorem ea_nil : EvA K W tNil ρ [] := fun ms H0 σ H g Q q => q [] H g (.refl H) .nil
theorem ea_cons {tr : TA} {ss : List Sl} (h : Ev K W ta ρ s) (hr : EvA K W tr ρ ss) : EvA K W (tCons ta tr) ρ (s :: ss) := fun ms H0 σ H g Q q =>
  h ms H0 σ H g _ fun x H1 g1 x1 o1 => hr ms H0 σ H1 g1 _ fun xs H2 g2 x2 o2 => q _ H2 g2 (x1.trans x2) (.cons (o1.mono (x2.cut g2.sub)) o2)
/-- a new object of data -/
theorem Sl.new_tup {ms : List Addr} {H : Hp} {p : Addr} {vs : List V} {ds : List PyData} (l : Live ms H) (hp : H p = none) (h : DpAll K (cut ms H) vs ds) : (Sl.dat (.tuple ds)).ok K (cut ms (upd H p (.tup vs))) (.ref p) :=
  .tup (.inl (.inl (by rw [cut_out (l.fresh hp)]; exact upd_same))) (dpa_mono (cut_put (.inr hp)) _ _ h)
theorem Sl.new_lst {ms : List Addr} {H : Hp} {p : Addr} {vs : List V} {ds : List PyData} (l : Live ms H) (hp : H p = none) (h : DpAll K (cut ms H) vs ds) : (Sl.dat (.list ds)).ok K (cut ms (upd H p (.lst vs))) (.ref p) :=
  .lst (.inl (.inl (by rw [cut_out (l.fresh hp)]; exact upd_same))) (dpa_mono (cut_put (.inr hp)) _ _ h)
theorem same_put {H : Hp} {p : Addr} {o : HO} (h : H p = none) : Same H (upd H p o) := fun a u e => by
  rw [upd_ne (ne_of_none e h)]
  exact e
theorem le_line {n : Nat} (h : n ≤ 100000) : n ≤ sizeLine := Nat.le_trans h (by decide)
theorem ev_tup {ta : TA} {ds : List PyData} (h : EvD K W ta ρ ds) (hl : ds.length ≤ 100000) : Evd K W (tTup ta) ρ (.tuple ds) := fun ms H0 σ H g Q q => h ms H0 σ H g _ fun vs H1 g1 x1 o1 =>
  ⟨by rw [dpa_len o1]; exact le_line hl, fun p hp => q _ _ (g1.same (same_put hp)) (x1.trans (.of_same (same_put hp))) (Sl.new_tup g1.live hp o1)⟩
theorem ev_lst {ta : TA} {ds : List PyData} (h : EvD K W ta ρ ds) (hl : ds.length ≤ 100000) : Evd K W (tLst ta) ρ (.list ds) := fun ms H0 σ H g Q q => h ms H0 σ H g _ fun vs H1 g1 x1 o1 =>
  ⟨by rw [dpa_len o1]; exact le_line hl, fun p hp => q _ _ (g1.same (same_put hp)) (x1.trans (.of_same (same_put hp))) (Sl.new_lst g1.live hp o1)⟩

/-! built-ins, by values -/
def Rc (K : PySem.W.Frag) (r : List V → Hp → VK → Prop) (ds : List PyData) (s : Sl) : Prop :=
  ∀ (ms : List Addr) (H : Hp) (vs : List V), Live ms H → DpAll K (cut ms H) vs ds → ∀ Q : VK, (∀ v H', Same H H' → s.ok K (cut ms H') v → Q v H') → r vs H Q
theorem ev_cb {r : List V → Hp → VK → Prop} {ta : TA} {ds : List PyData} (h : EvD K W ta ρ ds) (hr : Rc K r ds s) : Ev K W (tCB r ta) ρ s := fun ms H0 σ H g Q q => h ms H0 σ H g _ fun vs H1 g1 x1 o1 =>
  hr ms H1 vs g1.live o1 Q fun v H2 s2 o2 => q v H2 (g1.same s2) (x1.trans (.of_same s2)) o2
theorem rc1 {r : List V → Hp → VK → Prop} (h : ∀ (ms : List Addr) (H : Hp) (v : V), Live ms H → Dp K (cut ms H) v d → ∀ Q : VK, (∀ v H', Same H H' → s.ok K (cut ms H') v → Q v H') → r [v] H Q) : Rc K r [d] s := fun ms H vs l o Q q => by
  cases o with
  | cons o1 o2 =>
    cases o2
    exact h ms H _ l o1 Q q
theorem rc2 {r : List V → Hp → VK → Prop} (h : ∀ (ms : List Addr) (H : Hp) (v w : V), Live ms H → Dp K (cut ms H) v d → Dp K (cut ms H) w e → ∀ Q : VK, (∀ v H', Same H H' → s.ok K (cut ms H') v → Q v H') → r [v, w] H Q) : Rc K r [d, e] s := fun ms H vs l o Q q => by
  cases o with
  | cons o1 o2 =>
    cases o2 with
    | cons o2 o3 =>
      cases o3
      exact h ms H _ _ l o1 o2 Q q
abbrev rLenQ (K : PySem.W.Frag) : List V → Hp → VK → Prop := fun xs H Q => ∃ p ys, xs = [.ref p] ∧ (SqL K H p ys ∨ SqT K H p ys) ∧ Q (.int ys.length) H
theorem ev_lenL {ds : List PyData} (h : Evd K W te ρ (.list ds)) : Evd K W (tCB (rLenQ K) (tCons te tNil)) ρ (.int (ds.length : Int)) := ev_cb (ed_cons h ed_nil) (rc1 fun ms H v l o Q q => by
  cases o with
  | lst hs ha => exact ⟨_, _, rfl, .inl (sql_mono cut_le hs), by rw [dpa_len ha]; exact q _ H (Same.refl H) (.int _)⟩)
theorem ev_lenT {ds : List PyData} (h : Evd K W te ρ (.tuple ds)) : Evd K W (tCB (rLenQ K) (tCons te tNil)) ρ (.int (ds.length : Int)) := ev_cb (ed_cons h ed_nil) (rc1 fun ms H v l o Q q => by
  cases o with
  | tup hs ha => exact ⟨_, _, rfl, .inr (sqt_mono cut_le hs), by rw [dpa_len ha]; exact q _ H (Same.refl H) (.int _)⟩)
abbrev rInt1 : List V → Hp → VK → Prop := fun xs H Q => (∃ i, xs = [.int i] ∧ Q (.int i) H) ∨ ∃ k, xs = [.bl k] ∧ Q (.int (if k then 1 else 0)) H
theorem ev_toInt {i : Int} (h : Evd K W te ρ (.int i)) : Evd K W (tCB rInt1 (tCons te tNil)) ρ (.int i) := ev_cb (ed_cons h ed_nil) (rc1 fun ms H v l o Q q => by
  cases o
  exact .inl ⟨_, rfl, q _ H (Same.refl H) (.int _)⟩)
abbrev rAbs1 : List V → Hp → VK → Prop := fun xs H Q => ∃ i, xs = [.int i] ∧ Q (.int (if i < 0 then -i else i)) H
theorem ev_abs {i : Int} (h : Evd K W te ρ (.int i)) : Evd K W (tCB rAbs1 (tCons te tNil)) ρ (.int (if i < 0 then -i else i)) := ev_cb (ed_cons h ed_nil) (rc1 fun ms H v l o Q q => by
  cases o
  exact ⟨_, rfl, q _ H (Same.refl H) (.int _)⟩)
abbrev rMin2 : List V → Hp → VK → Prop := fun xs H Q => ∃ i j, xs = [.int i, .int j] ∧ Q (.int (if j < i then j else i)) H
theorem ev_min2 {i j : Int} (h : Evd K W ta ρ (.int i)) (h' : Evd K W tb ρ (.int j)) : Evd K W (tCB rMin2 (tCons ta (tCons tb tNil))) ρ (.int (if j < i then j else i)) := ev_cb (ed_cons h (ed_cons h' ed_nil)) (rc2 fun ms H v w l o o' Q q => by
  cases o; cases o'
  exact ⟨_, _, rfl, q _ H (Same.refl H) (.int _)⟩)
theorem ev_gcd {i j : Int} (h : Evd K W ta ρ (.int i)) (h' : Evd K W tb ρ (.int j)) : Evd K W (tCB rGcd (tCons ta (tCons tb tNil))) ρ (.int ((Nat.gcd i.natAbs j.natAbs : Nat) : Int)) := ev_cb (ed_cons h (ed_cons h' ed_nil)) (rc2 fun ms H v w l o o' Q q => by
  cases o; cases o'
  exact ⟨_, _, rfl, q _ H (Same.refl H) (.int _)⟩)
theorem ev_sum {ds : List PyData} {ns : List Int} (h : Evd K W te ρ (.list ds)) (hn : ds = ns.map PyData.int) : Evd K W (tCB (rSum K) (tCons te tNil)) ρ (.int ns.sum) := ev_cb (ed_cons h ed_nil) (rc1 fun ms H v l o Q q => by
  subst hn
  cases o with
  | lst hs ha =>
    rw [dpa_ints ha] at hs
    exact ⟨_, ns, rfl, sql_mono cut_le hs, q _ H (Same.refl H) (.int _)⟩)
theorem ev_max {ds : List PyData} {ns : List Int} {m : Int} (h : Evd K W te ρ (.list ds)) (hn : ds = ns.map PyData.int) (hm : m ∈ ns) (hb : ∀ y ∈ ns, y ≤ m) : Evd K W (tCB (rMax K) (tCons te tNil)) ρ (.int m) := ev_cb (ed_cons h ed_nil) (rc1 fun ms H v l o Q q => by
  subst hn
  cases o with
  | lst hs ha =>
    rw [dpa_ints ha] at hs
    refine ⟨_, ns, rfl, sql_mono cut_le hs, List.length_pos_of_mem hm, fun m' h1 h2 => ?_⟩
    have e : m' = m := Int.le_antisymm (hb _ h1) (h2 _ hm)
    rw [e]
    exact q _ H (Same.refl H) (.int _))
theorem ev_min {ds : List PyData} {ns : List Int} {m : Int} (h : Evd K W te ρ (.list ds)) (hn : ds = ns.map PyData.int) (hm : m ∈ ns) (hb : ∀ y ∈ ns, m ≤ y) : Evd K W (tCB (rMin K) (tCons te tNil)) ρ (.int m) := ev_cb (ed_cons h ed_nil) (rc1 fun ms H v l o Q q => by
  subst hn
  cases o with
  | lst hs ha =>
    rw [dpa_ints ha] at hs
    refine ⟨_, ns, rfl, sql_mono cut_le hs, List.length_pos_of_mem hm, fun m' h1 h2 => ?_⟩
    have e : m' = m := Int.le_antisymm (h2 _ hm) (hb _ h1)
    rw [e]
    exact q _ H (Same.refl H) (.int _))
theorem ev_all {ds : List PyData} {bs : List Bool} (h : Evd K W te ρ (.list ds)) (hn : ds = bs.map PyData.bool) : Evd K W (tCB (rAll K) (tCons te tNil)) ρ (.bool (bs.all id)) := ev_cb (ed_cons h ed_nil) (rc1 fun ms H v l o Q q => by
  subst hn
  cases o with
  | lst hs ha =>
    rw [dpa_bools ha] at hs
    exact ⟨_, bs, rfl, sql_mono cut_le hs, q _ H (Same.refl H) (.bl _)⟩)
abbrev rTupOf (K : PySem.W.Frag) : List V → Hp → VK → Prop := fun xs H Q => ∃ p ys, xs = [.ref p] ∧ ((SqL K H p ys ∧ ∀ l, H l = none → Q (.ref l) (upd H l (.tup ys))) ∨ (SqT K H p ys ∧ Q (.ref p) H))
theorem ev_tupL {ds : List PyData} (h : Evd K W te ρ (.list ds)) : Evd K W (tCB (rTupOf K) (tCons te tNil)) ρ (.tuple ds) := ev_cb (ed_cons h ed_nil) (rc1 fun ms H v l o Q q => by
  cases o with
  | lst hs ha => exact ⟨_, _, rfl, .inl ⟨sql_mono cut_le hs, fun p hp => q _ _ (same_put hp) (Sl.new_tup l hp ha)⟩⟩)
abbrev rLstOf (K : PySem.W.Frag) : List V → Hp → VK → Prop := fun xs H Q => ∃ p ys, xs = [.ref p] ∧ (SqL K H p ys ∨ SqT K H p ys) ∧ ∀ l, H l = none → Q (.ref l) (upd H l (.lst ys))
theorem ev_lstL {ds : List PyData} (h : Evd K W te ρ (.list ds)) : Evd K W (tCB (rLstOf K) (tCons te tNil)) ρ (.list ds) := ev_cb (ed_cons h ed_nil) (rc1 fun ms H v l o Q q => by
  cases o with
  | lst hs ha => exact ⟨_, _, rfl, .inl (sql_mono cut_le hs), fun p hp => q _ _ (same_put hp) (Sl.new_lst l hp ha)⟩)

/-! isinstance -/
def tyName : PyData → String
  | .none => "NoneType" | .bool _ => "bool" | .int _ => "int" | .str _ => "str" | .list _ => "list" | .tuple _ => "tuple" | .dict _ => "dict"
theorem ty_of {H : Hp} {v : V} (h : Dp K H v d) : TyX K H v (.type (tyName d)) := by
  cases h with
  | non => exact .base .non
  | bl b => exact .base (.bl b)
  | int i => exact .base (.int i)
  | str x => exact .base (.str x)
  | lst hs _ =>
    rcases hs with (hs | ⟨o, hs⟩) | ⟨o, its, n, e, c, _⟩
    · exact .base (.lst hs)
    · exact .base (.frz hs)
    · exact .kList e c
  | tup hs _ =>
    rcases hs with (hs | ⟨o, hs⟩) | ⟨o, its, n, e, c, _⟩
    · exact .base (.tup hs)
    · exact .fTuple hs
    · exact .kTuple e c
theorem tyx_mono {ms : List Addr} {v : V} (h : Dp K (cut ms H) v d) : TyX K H v (.type (tyName d)) := ty_of (dp_mono cut_le _ _ h)
theorem ev_isi {T : String} {b : Bool} (h : Evd K W te ρ d) (hk : kitB (tyName d) T = some b) : Evd K W (tCB (rIsi K) (tCons te (tCons (tC (.ty T)) tNil))) ρ (.bool b) := fun ms H0 σ H g Q q =>
  h ms H0 σ H g _ fun v H1 g1 x1 o1 => ⟨v, .ty T, .type (tyName d), .type T, b, rfl, .ty T, tyx_mono o1, kit_ty hk, q _ H1 g1 x1 (.bl b)⟩
theorem ev_isi2 {T U : String} {b : Bool} (h : Evd K W te ρ d) (hk : PySem.W.kitAny K (.type (tyName d)) [.type T, .type U] = some b) : Evd K W (tCB (rIsiT K) (tCons te (tCons (tTup (tCons (tC (.ty T)) (tCons (tC (.ty U)) tNil))) tNil))) ρ (.bool b) := fun ms H0 σ H g Q q =>
  h ms H0 σ H g _ fun v H1 g1 x1 o1 => ⟨by show 2 ≤ sizeLine; decide, fun p hp => ⟨v, p, [.ty T, .ty U], .type (tyName d), [.type T, .type U], b, rfl, upd_same, .cons (.ty T) (.cons (.ty U) .nil),
    ty_of (dp_mono (Same.trans cut_le (same_put hp)) _ _ o1), hk, q _ _ (g1.same (same_put hp)) (x1.trans (.of_same (same_put hp))) (.bl b)⟩⟩
end
end Fw

/-! The frame, 3: targets, sources, comprehensions, loops, statements, defs. -/
namespace Fw
open PySem L2
open PyProof.Rows (envOfC)
open RZ (ItzT iZipA)

section
variable {K : PySem.W.Frag} {W : Wd} {ms : List Addr} {B : Bs} {H H' : Hp} {ρ ρ' ρ1 : List Sl} {σ σ' : St} {d : PyData} {ds : List PyData} {s : Sl} {v : V}
  {ta tb tc te tx tl : TE} {tt t u : TT} {wi : TI} {g : TG} {gs : TGs} {D : Ends} {ts ts' tz : TS}

/-! ### targets -/
def Diff (js : List Nat) (σ σ' : St) : Prop := σ'.length = σ.length ∧ ∀ i : Nat, i ∉ js → σ'[i]? = σ[i]?
theorem Diff.set (σ : St) (j : Nat) (o : Option V) : Diff [j] σ (σ.set j o) := ⟨List.length_set, fun i h => by
  rw [List.getElem?_set_ne]
  intro q
  exact h (by simp [q])⟩
theorem Diff.trans {σ1 σ2 σ3 : St} {js ks : List Nat} (a : Diff js σ1 σ2) (b : Diff ks σ2 σ3) : Diff (js ++ ks) σ1 σ3 :=
  ⟨b.1.trans a.1, fun i h => (b.2 i fun z => h (List.mem_append_right _ z)).trans (a.2 i fun z => h (List.mem_append_left _ z))⟩
theorem wipe_get (σ : St) (i : Nat) : ∀ vs : List Nat, (wipe σ vs)[i]? = if i ∈ vs then σ[i]?.map (fun _ => none) else σ[i]?
  | [] => by simp [wipe]
  | v :: vs => by
    show ((wipe σ vs).set v none)[i]? = _
    have ih := wipe_get σ i vs
    by_cases h : v = i
    · subst h
      rw [List.getElem?_set_self']
      rw [ih, if_pos List.mem_cons_self]
      by_cases hm : v ∈ vs
      · rw [if_pos hm]; cases σ[v]? <;> rfl
      · rw [if_neg hm]; cases σ[v]? <;> rfl
    · rw [List.getElem?_set_ne h, ih]
      have e : (i ∈ v :: vs) = (i ∈ vs) := by
        simp [Ne.symm h]
      simp only [e]
theorem wipe_diff {σ σ2 : St} {js vs : List Nat} (h : Diff js (wipe σ vs) σ2) (hj : ∀ j ∈ js, j ∈ vs) : wipe σ2 vs = wipe σ vs := by
  apply List.ext_getElem?
  intro i
  rw [wipe_get, wipe_get]
  by_cases hm : i ∈ vs
  · rw [if_pos hm, if_pos hm]
    have e : σ2.length = σ.length := by rw [h.1, wipe_length]
    by_cases hl : i < σ.length
    · have hl2 : i < σ2.length := by omega
      rw [List.getElem?_eq_getElem hl, List.getElem?_eq_getElem hl2]
      rfl
    · have hl2 : ¬ i < σ2.length := by omega
      rw [List.getElem?_eq_none (by omega), List.getElem?_eq_none (by omega)]
  · rw [if_neg hm, if_neg hm, h.2 i (fun z => hm (hj i z)), wipe_get, if_neg hm]
def Tg (K : PySem.W.Frag) (W : Wd) (g : TG) (js : List Nat) (d : PyData) (ρ ρ' : List Sl) : Prop :=
  ∀ (ms : List Addr) (B : Bs) (σ : St) (H : Hp) (v : V), At K W ms B ρ σ H → Dp K (cut ms H) v d → ∀ Q : St → Hp → Prop, (∀ σ', At K W ms B ρ' σ' H → Diff js σ σ' → Q σ' H) → g v σ H Q
def Tgs (K : PySem.W.Frag) (W : Wd) (g : TGs) (js : List Nat) (ds : List PyData) (ρ ρ' : List Sl) : Prop :=
  ∀ (ms : List Addr) (B : Bs) (σ : St) (H : Hp) (vs : List V), At K W ms B ρ σ H → DpAll K (cut ms H) vs ds → ∀ Q : St → Hp → Prop, (∀ σ', At K W ms B ρ' σ' H → Diff js σ σ' → Q σ' H) → g vs σ H Q
theorem tg_name {j : Nat} : Tg K W (gName j) [j] d ρ (ρ.set j (.dat d)) := fun ms B σ H v a o Q q => q _ (a.set (s := .dat d) o j) (Diff.set σ j _)
theorem tgs_nil : Tgs K W gNil [] [] ρ ρ := fun ms B σ H vs a o Q q => by
  cases o
  exact ⟨rfl, q σ a ⟨rfl, fun _ _ => rfl⟩⟩
theorem tgs_cons {js ks : List Nat} (h : Tg K W g js d ρ ρ1) (hs : Tgs K W gs ks ds ρ1 ρ') : Tgs K W (gCons g gs) (js ++ ks) (d :: ds) ρ ρ' := fun ms B σ H vs a o Q q => by
  cases o with
  | cons o1 o2 => exact ⟨_, _, rfl, h ms B σ H _ a o1 _ fun σ1 a1 d1 => hs ms B σ1 H _ a1 o2 Q fun σ2 a2 d2 => q σ2 a2 (d1.trans d2)⟩
theorem tg_tup {n : Nat} {js : List Nat} (h : Tgs K W gs js ds ρ ρ') (hn : ds.length = n) : Tg K W (gTup K n gs) js (.tuple ds) ρ ρ' := fun ms B σ H v a o Q q => by
  cases o with
  | tup hs ha => exact ⟨_, _, rfl, sqt_mono cut_le hs, by rw [dpa_len ha]; exact hn, h ms B σ H _ a ha Q q⟩

/-! ### sources -/
def Stream (K : PySem.W.Frag) (J : It) (ms : List Addr) (H' : Hp) (ds : List PyData) : Prop :=
  ∃ (G : Hp → Prop) (Y : Nat → Hp → V → Hp → Prop), Walk J ds.length G Y ∧ ∀ (ms' : List Addr) (H2 : Hp), Same (cut ms H') (cut ms' H2) → G H2 ∧
    ∀ (i : Nat) (x : V) (H3 : Hp), Live ms' H2 → Y i H2 x H3 → Same H2 H3 ∧ ∀ d, ds[i]? = some d → Dp K (cut ms' H3) x d
def Src (K : PySem.W.Frag) (W : Wd) (wi : TI) (ρ : List Sl) (ds : List PyData) : Prop :=
  ∀ (ms : List Addr) (B : Bs) (σ : St) (H : Hp), At K W ms B ρ σ H → ∀ R : It → Hp → Prop, (∀ J H', At K W ms B ρ σ H' → XW W.ws H H' → Stream K J ms H' ds → R J H') → wi σ H R
theorem src_list (h : Evd K W tl ρ (.list ds)) : Src K W (iList K tl) ρ ds := fun ms B σ H a R q => h ms B σ H a _ fun v H1 h1 x1 o1 => by
  cases o1 with
  | @lst p vs _ hs ha =>
    refine ⟨p, rfl, ⟨vs, sql_mono cut_le hs⟩, q _ H1 h1 x1 ⟨fun H => SqL K H p vs, YAt vs, ?_, fun ms' H2 s => ⟨sql_mono (s.trans cut_le) hs, fun i x H3 l y => ?_⟩⟩⟩
    · rw [← dpa_len ha]; exact walk_list
    · obtain ⟨rfl, e⟩ := y
      refine ⟨Same.refl _, fun d hd => ?_⟩
      obtain ⟨d', e', o⟩ := dpa_get ha e
      rw [hd] at e'
      cases e'
      exact dp_mono s _ _ o
theorem src_tup (h : Evd K W tl ρ (.tuple ds)) : Src K W (iTup K tl) ρ ds := fun ms B σ H a R q => h ms B σ H a _ fun v H1 h1 x1 o1 => by
  cases o1 with
  | @tup p vs _ hs ha =>
    refine ⟨p, rfl, ⟨vs, sqt_mono cut_le hs⟩, q _ H1 h1 x1 ⟨fun H => SqT K H p vs, YAt vs, ?_, fun ms' H2 s => ⟨sqt_mono (s.trans cut_le) hs, fun i x H3 l y => ?_⟩⟩⟩
    · rw [← dpa_len ha]; exact walk_tup
    · obtain ⟨rfl, e⟩ := y
      refine ⟨Same.refl _, fun d hd => ?_⟩
      obtain ⟨d', e', o⟩ := dpa_get ha e
      rw [hd] at e'
      cases e'
      exact dp_mono s _ _ o
theorem src_range {ta : TA} {n : Int} (h : EvD K W ta ρ [.int n]) (hn : n ≤ 1000000000) (h0 : -1000000000 ≤ n) : Src K W (iRng1 ta) ρ ((List.range n.toNat).map fun i => PyData.int (i : Nat)) := fun ms B σ H a R q => h ms B σ H a _ fun vs H1 h1 x1 o1 => by
  cases o1 with
  | cons o1 o2 =>
    cases o1; cases o2
    refine ⟨n, rfl, by omega, by omega, q _ H1 h1 x1 ⟨fun _ => True, YFn fun i => .int (0 + i), ?_, fun ms' H2 s => ⟨trivial, fun i x H3 l y => ?_⟩⟩⟩
    · rw [List.length_map, List.length_range]; exact walk_range
    · obtain ⟨rfl, rfl⟩ := y
      refine ⟨Same.refl _, fun d hd => ?_⟩
      rw [List.getElem?_map] at hd
      cases e : (List.range n.toNat)[i]? with
      | none => rw [e] at hd; cases hd
      | some j =>
        rw [e] at hd
        obtain ⟨hl, e'⟩ := List.getElem?_eq_some_iff.mp e
        rw [List.getElem_range] at e'
        subst e'
        cases hd
        show Dp K _ (V.int (0 + _)) _
        rw [Int.zero_add]
        exact .int _
theorem src_range2 {ta : TA} {lo n : Int} (h : EvD K W ta ρ [.int lo, .int n]) (hn : n ≤ 1000000000) (h0 : -1000000000 ≤ n) (hl : lo ≤ 1000000000) (hl0 : -1000000000 ≤ lo) : Src K W (iRng2 ta) ρ ((List.range (n - lo).toNat).map fun i => PyData.int (lo + (i : Nat))) := fun ms B σ H a R q => h ms B σ H a _ fun vs H1 h1 x1 o1 => by
  cases o1 with
  | cons o1 o2 =>
    cases o2 with
    | cons o2 o3 =>
    cases o1; cases o2; cases o3
    refine ⟨lo, n, rfl, by omega, q _ H1 h1 x1 ⟨fun _ => True, YFn fun i => .int (lo + i), ?_, fun ms' H2 s => ⟨trivial, fun i x H3 l y => ?_⟩⟩⟩
    · rw [List.length_map, List.length_range]; exact walk_range
    · obtain ⟨rfl, rfl⟩ := y
      refine ⟨Same.refl _, fun d hd => ?_⟩
      rw [List.getElem?_map] at hd
      cases e : (List.range (n - lo).toNat)[i]? with
      | none => rw [e] at hd; cases hd
      | some j =>
        rw [e] at hd
        obtain ⟨hl, e'⟩ := List.getElem?_eq_some_iff.mp e
        rw [List.getElem_range] at e'
        subst e'
        cases hd
        exact .int _
theorem walk_zipT {a b : Addr} {xs ys : List V} {n : Nat} (hn : n = min xs.length ys.length) : Walk (ItzT K a b) n (fun H => SqT K H a xs ∧ SqT K H b ys) (YPair (fun i => xs[i]?) (fun i => ys[i]?)) := by
  subst hn
  refine ⟨fun i H hi q => ⟨xs, ys, xs[i]'(by omega), ys[i]'(by omega), q.1, q.2, List.getElem?_eq_getElem _, List.getElem?_eq_getElem _⟩, fun H q => ⟨xs, ys, q.1, q.2, by omega⟩, fun i H v H' hi q y => ?_⟩
  obtain ⟨T, x, z, h1, h2, h3, h4, h5⟩ := y
  exact ⟨T, x, z, h1, h2, h3, h4 xs q.1, h5 ys q.2⟩
theorem pair_item {ms : List Addr} {H2 H3 : Hp} {x : V} {vs ws : List V} {ds es : List PyData} {i : Nat} (l : Live ms H2) (ha : DpAll K (cut ms H2) vs ds) (hb : DpAll K (cut ms H2) ws es) (y : YPair (fun i => vs[i]?) (fun i => ws[i]?) i H2 x H3) :
    Same H2 H3 ∧ ∀ d, (List.zipWith (fun a b => PyData.tuple [a, b]) ds es)[i]? = some d → Dp K (cut ms H3) x d := by
  obtain ⟨T, a, b, rfl, hT, rfl, e1, e2⟩ := y
  refine ⟨same_put hT, fun d hd => ?_⟩
  obtain ⟨d1, q1, o1⟩ := dpa_get ha e1
  obtain ⟨d2, q2, o2⟩ := dpa_get hb e2
  rw [List.getElem?_zipWith, q1, q2] at hd
  cases hd
  exact Sl.new_tup (ds := [d1, d2]) l hT (.cons o1 (.cons o2 .nil))
theorem src_zipT {es : List PyData} {ta : TA} (h : EvD K W ta ρ [.tuple ds, .tuple es]) : Src K W (iZipA K ta) ρ (List.zipWith (fun a b => PyData.tuple [a, b]) ds es) := fun ms B σ H a R q => h ms B σ H a _ fun vs H1 h1 x1 o1 => by
  cases o1 with
  | cons o1 o2 =>
    cases o2 with
    | cons o2 o3 =>
      cases o3
      cases o1 with
      | tup hs ha =>
        cases o2 with
        | tup hs2 ha2 =>
          refine ⟨_, _, _, _, rfl, .inr ⟨sqt_mono cut_le hs, sqt_mono cut_le hs2, q _ H1 h1 x1 ⟨_, _, walk_zipT (by rw [List.length_zipWith, dpa_len ha, dpa_len ha2]), fun ms' H2 s => ⟨⟨sqt_mono (s.trans cut_le) hs, sqt_mono (s.trans cut_le) hs2⟩, fun i x H3 l y => ?_⟩⟩⟩⟩
          exact pair_item l (dpa_mono s _ _ ha) (dpa_mono s _ _ ha2) y
theorem src_zipL {es : List PyData} {ta : TA} (h : EvD K W ta ρ [.list ds, .list es]) : Src K W (iZipA K ta) ρ (List.zipWith (fun a b => PyData.tuple [a, b]) ds es) := fun ms B σ H a R q => h ms B σ H a _ fun vs H1 h1 x1 o1 => by
  cases o1 with
  | cons o1 o2 =>
    cases o2 with
    | cons o2 o3 =>
      cases o3
      cases o1 with
      | lst hs ha =>
        cases o2 with
        | lst hs2 ha2 =>
          refine ⟨_, _, _, _, rfl, .inl ⟨sql_mono cut_le hs, sql_mono cut_le hs2, q _ H1 h1 x1 ⟨_, _, walk_zip (by rw [List.length_zipWith, dpa_len ha, dpa_len ha2]), fun ms' H2 s => ⟨⟨sql_mono (s.trans cut_le) hs, sql_mono (s.trans cut_le) hs2⟩, fun i x H3 l y => ?_⟩⟩⟩⟩
          exact pair_item l (dpa_mono s _ _ ha) (dpa_mono s _ _ ha2) y

/-! ### comprehensions -/
theorem cut_new {ms : List Addr} {H : Hp} {l : Addr} (h : H l = none) : Same (cut ms H) (cut (l :: ms) H) := fun a o e => by
  have nm : a ∉ ms := fun z => by rw [cut_in z] at e; cases e
  rw [cut_out nm] at e
  have na : a ≠ l := fun z => by rw [z, h] at e; cases e
  rw [cut_out (by simp [na, nm])]
  exact e
structure LcI (K : PySem.W.Frag) (W : Wd) (ms : List Addr) (H1 : Hp) (ρw : List Sl) (σw : St) (Dl : Addr) (Ψ : Nat → List PyData → Prop) (i : Nat) (H : Hp) : Prop where
  here : At K W (Dl :: ms) ⟨H1, H1⟩ ρw σw H
  acc : ∃ acc es, H Dl = some (.lst acc) ∧ DpAll K (cut (Dl :: ms) H) acc es ∧ acc.length ≤ i ∧ Ψ i es
theorem LcI.same {H1 : Hp} {ρw : List Sl} {σw : St} {Dl : Addr} {Ψ : Nat → List PyData → Prop} {i : Nat} (h : LcI K W ms H1 ρw σw Dl Ψ i H) (s : Same H H') : LcI K W ms H1 ρw σw Dl Ψ i H' := by
  obtain ⟨acc, es, e1, e2, e3, e4⟩ := h.acc
  exact ⟨h.here.same s, acc, es, s _ _ e1, dpa_mono ((XW.of_same (ws := W.ws) s).cut h.here.sub) _ _ e2, e3, e4⟩
theorem lc_turn {H1 : Hp} {ρw ρ2 : List Sl} {σw σ2 : St} {Dl : Addr} {Ψ : Nat → List PyData → Prop} {i : Nat} {b : Bool} {Φ : PyData → Prop} (h : LcI K W ms H1 ρw σw Dl Ψ i H) (hD : H1 Dl = none) (hw : Dl ∉ W.ws) (hi : i < 16000000)
    (h2 : At K W (Dl :: ms) ⟨H1, H1⟩ ρ2 σ2 H) (ht : EvT K W tt ρ2 b) (he : b = true → En K W te ρ2 fun s => ∃ d, s = .dat d ∧ Φ d)
    (st1 : b = true → ∀ es d, Ψ i es → Φ d → Ψ (i + 1) (es ++ [d])) (st0 : b = false → ∀ es, Ψ i es → Ψ (i + 1) es) :
    tt σ2 H fun b H3 => if b = true then te σ2 H3 fun y H4 => ∃ acc, H4 Dl = some (.lst acc) ∧ acc.length < sizeLine ∧ LcI K W ms H1 ρw σw Dl Ψ (i + 1) (upd H4 Dl (.lst (acc ++ [y]))) else LcI K W ms H1 ρw σw Dl Ψ (i + 1) H3 := by
  obtain ⟨acc, es, e1, e2, e3, e4⟩ := h.acc
  refine ht _ _ _ _ h2 _ fun H3 g3 x3 => ?_
  cases b with
  | true =>
    refine iteT (he rfl _ _ _ _ g3 _ fun s' y H4 φ g4 x4 o4 => ?_)
    obtain ⟨d, rfl, φ⟩ := φ
    have x34 := x3.trans x4
    refine ⟨acc, x34 _ _ hw e1, Nat.lt_of_le_of_lt e3 (Nat.lt_trans hi (by decide)), (h.here.go x34 g4.live g4.p).write List.mem_cons_self hw hD (nx_lst (x34 _ _ hw e1)), acc ++ [y], es ++ [d], upd_same, ?_, by rw [List.length_append, List.length_singleton]; omega, st1 rfl es d e4 φ⟩
    exact dpa_snoc (dpa_mono ((x34.cut h.here.sub).trans cut_drop) _ _ e2) (dp_mono cut_drop _ _ o4)
  | false =>
    refine iteF ?_
    exact ⟨h.here.go x3 g3.live g3.p, acc, es, x3 _ _ hw e1, dpa_mono (x3.cut h.here.sub) _ _ e2, by omega, st0 rfl es e4⟩
theorem take_more {α : Type} {xs : List α} {i : Nat} {x : α} (h : xs[i]? = some x) : xs.take (i + 1) = xs.take i ++ [x] := by
  rw [List.take_add_one, h]
  rfl
/-- .. to a new list -/
def EvF (K : PySem.W.Frag) (W : Wd) (te : TE) (ρ : List Sl) (Φ : List PyData → Prop) : Prop :=
  ∀ (ms : List Addr) (B : Bs) (σ : St) (H : Hp), At K W ms B ρ σ H → ∀ Q : VK, (∀ ds p vs H', Φ ds → At K W ms B ρ σ H' → XW W.ws H H' → H p = none → H' p = some (.lst vs) → DpAll K (cut (p :: ms) H') vs ds → Q (.ref p) H') → te σ H Q
theorem EvF.imp {Φ Φ' : List PyData → Prop} (h : EvF K W te ρ Φ) (i : ∀ ds, Φ ds → Φ' ds) : EvF K W te ρ Φ' := fun ms B σ H g Q q => h ms B σ H g Q fun ds p vs H' φ => q ds p vs H' (i ds φ)
theorem en_of_ef {Φ : List PyData → Prop} (h : EvF K W te ρ Φ) : En K W te ρ fun s => ∃ ds, s = .dat (.list ds) ∧ Φ ds := fun ms B σ H g Q q => h ms B σ H g Q fun ds p vs H' φ g' x hp e o =>
  q (.dat (.list ds)) (.ref p) H' ⟨ds, rfl, φ⟩ g' x (.lst (.inl (.inl (by rw [cut_out (g.live.fresh hp)]; exact e))) (dpa_mono cut_cons _ _ o))
theorem ef_lc {α : Type} {xs : List α} {enc : α → PyData} {p : α → Bool} {Φ : α → PyData → Prop} {vs : List Nat} {S : α → List Sl} (sr : Src K W wi ρ (xs.map enc)) (hz : xs.length ≤ 16000000)
    (tg : ∀ x ∈ xs, ∃ js, Tg K W g js (enc x) (wipeR ρ vs) (S x) ∧ ∀ j ∈ js, j ∈ vs) (ht : ∀ x ∈ xs, EvT K W tt (S x) (p x)) (he : ∀ x ∈ xs, p x = true → En K W te (S x) fun s => ∃ d, s = .dat d ∧ Φ x d) :
    EvF K W (tLc wi g tt te vs) ρ fun es => Paired Φ (xs.filter p) es := fun ms B σ H_ a Q q => sr ms B σ H_ a _ fun J H1 h1 x1 stm => by
  obtain ⟨G, Y, wk, st⟩ := stm
  intro Dl hD
  obtain ⟨_, hm, hw⟩ := h1.fresh hD
  have data : ∀ {i : Nat} {H : Hp}, LcI K W ms H1 (wipeR ρ vs) (wipe σ vs) Dl (fun i es => Paired Φ ((xs.take i).filter p) es) i H → Same (cut ms H1) (cut (Dl :: ms) H) := fun {i H} l => (cut_new hD).trans l.here.st
  refine lc_it wk (LcI K W ms H1 (wipeR ρ vs) (wipe σ vs) Dl fun i es => Paired Φ ((xs.take i).filter p) es) ?_ (fun i H _ l => (st _ H (data l)).1) (fun i x H H' hi l y => ?_) fun H l => ?_
  · exact ⟨(h1.base.own hD).wipe vs, [], [], upd_same, .nil, Nat.le_refl _, .nil⟩
  · obtain ⟨s, hd⟩ := (st _ H (data l)).2 i x H' l.here.live y
    have hi' : i < xs.length := by rw [List.length_map] at hi; exact hi
    have hx : xs[i]? = some xs[i] := List.getElem?_eq_getElem hi'
    have hmem : xs[i] ∈ xs := List.getElem_mem hi'
    have o := hd (enc xs[i]) (by rw [List.getElem?_map, hx]; rfl)
    have l' := l.same s
    obtain ⟨js, tj, sub⟩ := tg _ hmem
    refine tj _ _ _ _ x l'.here o _ fun σ2 h2 df => ⟨wipe_diff df sub, ?_⟩
    refine lc_turn l' hD hw (by omega) h2 (ht _ hmem) (he _ hmem) (fun hb es d ψ φ => ?_) fun hb es ψ => ?_
    · rw [take_more hx, List.filter_append, List.filter_cons_of_pos hb]
      exact ψ.snoc φ
    · rw [take_more hx, List.filter_append, List.filter_cons_of_neg (by rw [hb]; decide)]
      show Paired Φ (_ ++ []) es
      rw [List.append_nil]
      exact ψ
  · obtain ⟨acc, es, e1, e2, e3, e4⟩ := l.acc
    rw [List.length_map, List.take_length] at e4
    refine q es Dl acc H e4 (h1.back l.here rfl fun a z => List.mem_cons_of_mem _ z) (x1.trans l.here.xw) ?_ e1 e2
    cases q : H_ Dl with
    | none => rfl
    | some o => rw [x1 Dl o hw q] at hD; cases hD
theorem en_lc {α : Type} {xs : List α} {enc : α → PyData} {p : α → Bool} {Φ : α → PyData → Prop} {vs : List Nat} {S : α → List Sl} (sr : Src K W wi ρ (xs.map enc)) (hz : xs.length ≤ 16000000)
    (tg : ∀ x ∈ xs, ∃ js, Tg K W g js (enc x) (wipeR ρ vs) (S x) ∧ ∀ j ∈ js, j ∈ vs) (ht : ∀ x ∈ xs, EvT K W tt (S x) (p x)) (he : ∀ x ∈ xs, p x = true → En K W te (S x) fun s => ∃ d, s = .dat d ∧ Φ x d) :
    En K W (tLc wi g tt te vs) ρ fun s => ∃ es, s = .dat (.list es) ∧ Paired Φ (xs.filter p) es := en_of_ef (ef_lc sr hz tg ht he)
theorem paired_map {α : Type} {f : α → PyData} : ∀ {xs : List α} {es : List PyData}, Paired (fun x d => d = f x) xs es → es = xs.map f
  | _, _, .nil => rfl
  | _, _, .cons h t => by rw [List.map_cons, ← h, paired_map t]
theorem ev_of_en {d : PyData} (h : En K W te ρ fun s => s = .dat d) : Evd K W te ρ d := fun ms B σ H a Q q => h ms B σ H a Q fun s v H1 e g x o => by
  subst e
  exact q v H1 g x o
theorem en_of_ev {Φ : Sl → Prop} (h : Ev K W te ρ s) (φ : Φ s) : En K W te ρ Φ := fun ms B σ H a Q q => h ms B σ H a Q fun v H1 g x o => q s v H1 φ g x o
theorem En.imp {Φ Φ' : Sl → Prop} (h : En K W te ρ Φ) (i : ∀ s, Φ s → Φ' s) : En K W te ρ Φ' := fun ms B σ H a Q q => h ms B σ H a Q fun s v H1 e g x o => q s v H1 (i s e) g x o
theorem ev_lc {α : Type} {xs : List α} {enc f : α → PyData} {p : α → Bool} {vs : List Nat} {S : α → List Sl} (sr : Src K W wi ρ (xs.map enc)) (hz : xs.length ≤ 16000000)
    (tg : ∀ x ∈ xs, ∃ js, Tg K W g js (enc x) (wipeR ρ vs) (S x) ∧ ∀ j ∈ js, j ∈ vs) (ht : ∀ x ∈ xs, EvT K W tt (S x) (p x)) (he : ∀ x ∈ xs, p x = true → Evd K W te (S x) (f x)) :
    Evd K W (tLc wi g tt te vs) ρ (.list ((xs.filter p).map f)) :=
  ev_of_en ((en_lc (Φ := fun x d => d = f x) sr hz tg ht fun x hx hp => en_of_ev (he x hx hp) ⟨_, rfl, rfl⟩).imp fun s ⟨es, e, pr⟩ => by rw [e, paired_map pr])
/-- no test, the target a name -/
theorem ev_lc0 {α : Type} {xs : List α} {enc f : α → PyData} {j : Nat} (sr : Src K W wi ρ (xs.map enc)) (hz : xs.length ≤ 16000000) (he : ∀ x ∈ xs, Evd K W te ((ρ.set j .emp).set j (.dat (enc x))) (f x)) :
    Evd K W (tLc wi (gName j) tYes te [j]) ρ (.list (xs.map f)) := by
  have h := ev_lc (K := K) (W := W) (g := gName j) (tt := tYes) (te := te) (p := fun _ => true) (f := f) (vs := [j]) (S := fun x => (ρ.set j .emp).set j (.dat (enc x))) sr hz (fun x _ => ⟨[j], tg_name, fun _ z => z⟩) (fun _ _ => et_yes) fun x hx _ => he x hx
  rw [List.filter_eq_self.mpr fun _ _ => rfl] at h
  exact h
theorem ev_lc1 {α : Type} {xs : List α} {enc f : α → PyData} {p : α → Bool} {j : Nat} (sr : Src K W wi ρ (xs.map enc)) (hz : xs.length ≤ 16000000) (ht : ∀ x ∈ xs, EvT K W tt ((ρ.set j .emp).set j (.dat (enc x))) (p x)) (he : ∀ x ∈ xs, p x = true → Evd K W te ((ρ.set j .emp).set j (.dat (enc x))) (f x)) :
    Evd K W (tLc wi (gName j) tt te [j]) ρ (.list ((xs.filter p).map f)) :=
  ev_lc (vs := [j]) (S := fun x => (ρ.set j .emp).set j (.dat (enc x))) sr hz (fun x _ => ⟨[j], tg_name, fun _ z => z⟩) ht he

/-! ### statements -/
theorem s_asg {i : Nat} (h : At K W ms B ρ σ H) (e : Ev K W te ρ s) (k : ∀ σ' H', At K W ms B (ρ.set i s) σ' H' → XW W.ws H H' → D.nx σ' H') : tAsg te (gName i) D σ H :=
  e ms B σ H h _ fun v H1 h1 x1 o1 => k _ H1 (h1.set o1 i) x1
theorem q_asg {i : Nat} (h : At K W ms B ρ σ H) (e : Ev K W te ρ s) (k : ∀ σ' H', At K W ms B (ρ.set i s) σ' H' → XW W.ws H H' → tz D σ' H') : tSeq (tAsg te (gName i)) tz D σ H :=
  s_asg (D := { D with nx := tz D }) h e k
theorem s_tgt {js : List Nat} (h : At K W ms B ρ σ H) (e : Evd K W te ρ d) (tj : Tg K W g js d ρ ρ') (k : ∀ σ' H', At K W ms B ρ' σ' H' → XW W.ws H H' → D.nx σ' H') : tAsg te g D σ H :=
  e ms B σ H h _ fun v H1 h1 x1 o1 => tj ms B σ H1 v h1 o1 _ fun σ' h' _ => k σ' H1 h' x1
theorem q_tgt {js : List Nat} (h : At K W ms B ρ σ H) (e : Evd K W te ρ d) (tj : Tg K W g js d ρ ρ') (k : ∀ σ' H', At K W ms B ρ' σ' H' → XW W.ws H H' → tz D σ' H') : tSeq (tAsg te g) tz D σ H :=
  s_tgt (D := { D with nx := tz D }) h e tj k
theorem s_drop (h : At K W ms B ρ σ H) (e : Ev K W te ρ s) (k : ∀ H', At K W ms B ρ σ H' → XW W.ws H H' → D.nx σ H') : tDrop te D σ H := e ms B σ H h _ fun v H1 h1 x1 _ => k H1 h1 x1
theorem q_drop (h : At K W ms B ρ σ H) (e : Ev K W te ρ s) (k : ∀ H', At K W ms B ρ σ H' → XW W.ws H H' → tz D σ H') : tSeq (tDrop te) tz D σ H := s_drop (D := { D with nx := tz D }) h e k
theorem s_ret (h : At K W ms B ρ σ H) (e : Ev K W te ρ s) (k : ∀ v H', At K W ms B ρ σ H' → XW W.ws H H' → s.ok K (cut ms H') v → D.rt v H') : tRet te D σ H := e ms B σ H h _ k
theorem s_if {b : Bool} (h : At K W ms B ρ σ H) (e : EvT K W tt ρ b) (k1 : b = true → ∀ H', At K W ms B ρ σ H' → XW W.ws H H' → ts D σ H') (k2 : b = false → ∀ H', At K W ms B ρ σ H' → XW W.ws H H' → ts' D σ H') : tIfS tt ts ts' D σ H :=
  e ms B σ H h _ fun H1 h1 x1 => by
    cases b with
    | true => exact iteT (k1 rfl H1 h1 x1)
    | false => exact iteF (k2 rfl H1 h1 x1)
theorem q_if {b : Bool} (h : At K W ms B ρ σ H) (e : EvT K W tt ρ b) (k1 : b = true → ∀ H', At K W ms B ρ σ H' → XW W.ws H H' → ts { D with nx := tz D } σ H') (k2 : b = false → ∀ H', At K W ms B ρ σ H' → XW W.ws H H' → ts' { D with nx := tz D } σ H') : tSeq (tIfS tt ts ts') tz D σ H :=
  s_if (D := { D with nx := tz D }) h e k1 k2
theorem q_when {b : Bool} (h : At K W ms B ρ σ H) (e : EvT K W tt ρ b) (k1 : b = true → ∀ H', At K W ms B ρ σ H' → XW W.ws H H' → ts { D with nx := tz D } σ H') (k2 : b = false → ∀ H', At K W ms B ρ σ H' → XW W.ws H H' → tz D σ H') : tSeq (tIfS tt ts tNext) tz D σ H :=
  s_if (D := { D with nx := tz D }) h e k1 k2
theorem s_par {i j : Nat} {ta : TA} {s1 s2 : Sl} (h : At K W ms B ρ σ H) (e : EvA K W ta ρ [s1, s2]) (k : ∀ σ' H', At K W ms B ((ρ.set i s1).set j s2) σ' H' → XW W.ws H H' → D.nx σ' H') : tPar i j ta D σ H :=
  e ms B σ H h _ fun vs H1 h1 x1 o1 => by
    cases o1 with
    | cons o1 o2 =>
      cases o2 with
      | cons o2 o3 =>
        cases o3
        exact ⟨_, _, rfl, k _ H1 ((h1.set o1 i).set o2 j) x1⟩
theorem q_par {i j : Nat} {ta : TA} {s1 s2 : Sl} (h : At K W ms B ρ σ H) (e : EvA K W ta ρ [s1, s2]) (k : ∀ σ' H', At K W ms B ((ρ.set i s1).set j s2) σ' H' → XW W.ws H H' → tz D σ' H') : tSeq (tPar i j ta) tz D σ H :=
  s_par (D := { D with nx := tz D }) h e k
/-- a new list of one's own -/
theorem q_own {i : Nat} {ta : TA} (h : At K W ms B ρ σ H) (e : EvD K W ta ρ ds) (hl : ds.length ≤ 100000)
    (k : ∀ l vs σ' H', At K W (l :: ms) B (ρ.set i (.raw (.ref l))) σ' H' → H' l = some (.lst vs) → DpAll K (cut (l :: ms) H') vs ds → B.h0 l = none → l ∉ ms → l ∉ W.ws → tz D σ' H') : tSeq (tAsg (tLst ta) (gName i)) tz D σ H :=
  e ms B σ H h _ fun vs H1 h1 x1 o1 => ⟨by rw [dpa_len o1]; exact le_line hl, fun p hp => by
    obtain ⟨h0, hm, hw⟩ := h1.fresh hp
    exact k p vs _ _ ((h1.own hp).set (s := .raw (.ref p)) rfl i) upd_same (dpa_mono ((cut_new hp).trans cut_drop) _ _ o1) h0 hm hw⟩
/-- the for -/
theorem s_for {R S : Nat → List Sl} {X : Nat → Hp → Prop} (h : At K W ms B ρ σ H) (sr : Src K W wi ρ ds) (l0 : Le (R 0) ρ) (x0 : ∀ H1, At K W ms B ρ σ H1 → XW W.ws H H1 → X 0 H1) (xm : ∀ i H H', Same H H' → At K W ms B (R i) σ H → X i H → X i H')
    (tg : ∀ i d, ds[i]? = some d → ∃ js, Tg K W g js d (R i) (S i))
    (hs : ∀ Hb i d σ' H', ds[i]? = some d → At K W ms ⟨B.h0, Hb⟩ (S i) σ' H' → X i H' → ts { D with nx := fun σ H => At K W ms ⟨B.h0, Hb⟩ (R (i + 1)) σ H ∧ X (i + 1) H, ct := fun σ H => At K W ms ⟨B.h0, Hb⟩ (R (i + 1)) σ H ∧ X (i + 1) H, bk := D.nx } σ' H')
    (hd : ∀ σ' H', At K W ms B (R ds.length) σ' H' → X ds.length H' → D.nx σ' H') (xs : ∀ i H H', Same H H' → Live ms H → X i H → X i H') : tFor wi g ts D σ H := sr ms B σ H h _ fun J H1 h1 x1 stm => by
  obtain ⟨G, Y, wk, st⟩ := stm
  refine for_it wk (fun i σ H => At K W ms ⟨B.h0, H1⟩ (R i) σ H ∧ X i H) ⟨h1.re.le l0, x0 H1 h1 x1⟩ (fun i σ H _ p => (st ms H p.1.st).1) (fun i x σ H H' hi p y => ?_) fun σ H p => hd σ H (h1.un p.1) p.2
  obtain ⟨s, hdt⟩ := (st ms H p.1.st).2 i x H' p.1.live y
  have hx : ds[i]? = some ds[i] := List.getElem?_eq_getElem hi
  obtain ⟨js, tj⟩ := tg i _ hx
  exact tj ms _ σ H' x (p.1.same s) (hdt _ hx) _ fun σ2 h2 _ => hs H1 i _ σ2 H' hx h2 (xs i H H' s p.1.live p.2)

/-! ### defs that only read -/
def spP (K : PySem.W.Frag) (G : List PyData → PyData → Prop) : Sp := fun vs H Q _ => ∃ (ms : List Addr) (ds : List PyData) (d : PyData), Live ms H ∧ DpAll K (cut ms H) vs ds ∧ G ds d ∧ ∀ v H', Same H H' → Dp K (cut ms H') v d → Q v H'
theorem ev_call {G : List PyData → PyData → Prop} {ta : TA} {E : XK} (h : EvD K W ta ρ ds) (hg : G ds d) : Evd K W (tCall (spP K G) [] E ta) ρ d := fun ms B σ H a Q q => h ms B σ H a _ fun vs H1 h1 x1 o1 => by
  show spP K G (vs ++ []) H1 Q E
  rw [List.append_nil]
  exact ⟨ms, ds, d, h1.live, o1, hg, fun v H2 s2 o2 => q v H2 (h1.same s2) (x1.trans (.of_same s2)) o2⟩
def Runs (K : PySem.W.Frag) (t : TS) (ρ : List Sl) (d : PyData) : Prop :=
  ∀ (ms : List Addr) (σ : St) (H : Hp) (Q : VK), At K W0 ms ⟨H, H⟩ ρ σ H → (∀ v H', At K W0 ms ⟨H, H⟩ [] [] H' → Dp K (cut ms H') v d → Q v H') → t { nx := fun _ H' => Q .non H', rt := Q } σ H
def slots (n : Nat) (ds : List PyData) : List Sl := ds.map .dat ++ List.replicate (n - ds.length) .emp
theorem At.nil (h : At K W ms B ρ σ H) : At K W ms B [] [] H := ⟨h.sub, h.live, .nil, h.p, h.xw, h.st, h.c⟩
theorem env_args : ∀ {vs : List V} {ds : List PyData}, DpAll K H vs ds → EnvOk K H (ds.map .dat) (vs.map some)
  | _, [], h => by cases h; exact .nil
  | _, d :: ds, h => by
    cases h with
    | cons h1 h2 => exact .cons h1 (env_args h2)
theorem at_start {N : List Str} {vs : List V} (l : Live ms H) (h : DpAll K (cut ms H) vs ds) : At K W0 ms ⟨H, H⟩ (slots N.length ds) (L2.start N vs) H :=
  ⟨fun _ z => (by cases z), l, by unfold slots L2.start; rw [dpa_len h]; exact EnvOk.app (env_args h) (EnvOk.emp _), trivial, .refl H, Same.refl _, trivial⟩
section
variable {P : Program} {w : World} {mg : Str → Option Value} {base : Heap}
theorem pureOk {x qual : Str} {st : Stmt} {f : Addr} {fd : FuncData} {N ps : List Str} {k : Nat} {G : List PyData → PyData → Prop} (F : Fun K x qual st f fd) (S : FnScope N ps (defScope st)) (hG : ∀ ds d, G ds d → ds.length = ps.length)
    (hb : ∀ (cdv : Value) (A : Around) (outer : List Env) (s : Shared) (H : Hp) (E : XK), Room k (A.deeper (envOfC qual (defScope st) s.heap.objs.size f cdv)) →
      ∃ t, PSs (cxOf CX0 P w K mg base N qual (defScope st) f cdv A outer s H E).nox (defBody st) t ∧ ∀ ds d, G ds d → Runs K t (slots N.length ds) d) : FnOk P w K mg base CX0 (k + 1) f fd ps (spP K G) := by
  refine F.ok S (fun vs H Q E h => ?_) fun cdv A outer s H vs Q E hr h => ?_
  · obtain ⟨ms, ds, d, l, o, g, _⟩ := h
    rw [dpa_len o, hG ds d g]
  · obtain ⟨ms, ds, d, l, o, g, q⟩ := h
    obtain ⟨t, ht, hr⟩ := hb cdv A outer s H E hr
    exact ⟨t, ht, hr ds d g ms _ H Q (at_start l o) fun v H' a od => q v H' a.xw.same od⟩
end
end
end Fw

/-! The frame, 4: further rules (a list or a tuple walked, keywords alone, xs[i] op= e, repr of data). -/
namespace Fw
open PySem L2
open PyProof.Rows (envOfC)

section
variable {X : Cx} {tg l : Expr} {tl : TE}
/-- a list or a tuple is walked -/
def iSeq (K : PySem.W.Frag) (tl : TE) : TI := fun σ H R => tl σ H fun x H1 => ∃ a, x = .ref a ∧ (((∃ xs, SqL K H1 a xs) ∧ R (Itl K a) H1) ∨ ((∃ xs, SqT K H1 a xs) ∧ R (Itt K a) H1))
theorem pi_seq (hl : PE X l tl) : PI X tg l (iSeq X.K tl) := ⟨fun pins s σ H R I h => by
  refine thn (hl.run pins s σ H _ I h) fun w sa hw => ?_
  obtain ⟨x, Ha, Ia, rx, a, ex, q⟩ := hw
  subst ex
  cases rx
  have kp : ∀ ob : Obj, Inv X pins σ Ha { sa with heap := sa.heap.push ob, toks := sa.toks } := fun ob => Ia.kept (t' := sa.toks) fun b o e => Heap.get?_push_of_some ob e
  have fp : ∀ b ∈ [sa.heap.objs.size], FpOk X pins Ha b := fun b hb => by
    rw [List.mem_singleton.mp hb]
    exact Ia.fpOk (Nat.le_refl _) (Ia.hok.fresh (Nat.le_refl _))
  rcases q with ⟨⟨xs, hq⟩, q⟩ | ⟨⟨xs, hq⟩, q⟩
  · obtain ⟨its, _, p, _⟩ := Ia.list hq
    exact wpAny_pyIter_list p.isList ⟨_, [sa.heap.objs.size], _, _, Ha, rfl, kp _, turn_list a _, ⟨_, Heap.get?_push_size _ rfl, rfl, rfl⟩, fp, q⟩
  · obtain ⟨its, _, p, _⟩ := Ia.tuple hq
    exact wpAny_pyIter_tuple (show sa.heap.IsTuple a its.toArray from p) ⟨_, [sa.heap.objs.size], _, _, Ha, rfl, kp _, turn_tuple a _, ⟨_, Heap.get?_push_size _ rfl, rfl, rfl⟩, fp, q⟩⟩
/-- xs[j], by values, j not negative -/
def rGetL (K : PySem.W.Frag) : V → V → Hp → VK → Prop := fun x y H Q => ∃ (p : Addr) (xs : List V) (j : Nat) (v : V), x = .ref p ∧ y = .int (j : Int) ∧ SqL K H p xs ∧ j < 1000000 ∧ xs[j]? = some v ∧ Q v H
theorem pget_list : PGet X (rGetL X.K) := fun pins s σ H x y v u Q I rx ry h => by
  obtain ⟨p, xs, j, z, rfl, rfl, hq, hj, e, q⟩ := h
  cases rx
  obtain ⟨tk, rfl⟩ := ry
  obtain ⟨its, r, pl, _⟩ := I.list hq
  obtain ⟨w, ew, rw'⟩ := r.get e
  exact wpAny_getItem_list pl.isList (by omega) (by omega) (by simpa using ew) ⟨z, H, I, rw', q⟩
/-- f(k = v, ..), keywords alone -/
theorem pe_fnK {x : Str} {p pos : Pos} {kws : List Keyword} {tk : TA} {k : Nat} {f : Addr} {fd : FuncData} {ps ks : List Str} {sp : Sp} {g : List Value → List Value → List Value} {gV : List V → List V → List V}
    (F : FnOk X.prog X.w X.K X.mg X.base CX0 k f fd ps sp) (hr : Room k X.A) (hg : Gl X x) (hm : X.mg x = some (.ref f)) (hk : PySem.W.keepIn X.K (.ref f) = true) (hb : KBinds X.K fd ps ks g gV) (hkw : PK X kws tk)
    (ha : (backToKw pos (keywordEach kws X.env)).all (·.1.isSome) = true := by rfl) (hn : (backToKw pos (keywordEach kws X.env)).filterMap (·.1) = ks := by rfl)
    (hd : (x == ("__debug__" : Str)) = false := by decide) (hp : ((backTo pos (starEach [] X.env)).any (·.1) || (backToKw pos (keywordEach kws X.env)).any (·.1.isNone)) = false := by rfl) :
    PE X (.Call (.Name x p) [] kws pos) (tCallK sp gV E0 tNil tk) := ⟨fun pins s σ H Q I h => by
  refine wpAny_Call_Name_kw (ld_glob I hg hm (PySem.W.callWith_KW0 (h₀ := X.base) I.ok.mod.kin hk ha (thn (hkw.run pos pins s σ H _ I h) fun ws sb hz => ?_) hp) hd)
  obtain ⟨zs, Hb, Ib, rz, qz⟩ := hz
  refine ⟨Ib.kIn, ?_⟩
  rw [hn]
  exact run_fnk (us := []) (vs := []) F hr hb pass0 Ib .nil rz qz⟩
/-- repr of a list or a tuple of data -/
def rReprD (K : PySem.W.Frag) : List V → Hp → VK → Prop := fun vs H Q => ∃ (a : Addr) (d : PyData), vs = [.ref a] ∧ Dp K H (.ref a) d ∧ d.showable = true ∧ d.hasDict = false ∧ d.depth ≤ 60 ∧ d.shown.length ≤ sizeLine ∧ Q (.str d.shown) H
theorem cr_reprD (hg : X.A.guards = some []) (hu : X.A.units + 64 < cLine) : CallR X (.builtin "repr") (rReprD X.K) := fun pins s σ H xs us Q I r h => by
  obtain ⟨a, d, rfl, hd, hs, hn, hz, hl, q⟩ := h
  obtain ⟨u, rfl, ru⟩ := vals1 r
  obtain ⟨as, rd⟩ := Dp.reads I d _ u hd ru
  cases ru
  exact PySem.repr_of_reads' rd hs (fun z => absurd z (by rw [hn]; decide)) hg (by omega) (fun b o e => e) (fun h' u' tk kp => ⟨.str _, H, I.kept (t' := tk) kp, ⟨u', rfl⟩, q⟩) hl
end

section
variable {K : PySem.W.Frag} {W : Wd} {ρ : List Sl} {d : PyData} {ds : List PyData} {tl te ta tb : TE}
theorem src_seqL (h : Evd K W tl ρ (.list ds)) : Src K W (iSeq K tl) ρ ds := fun ms B σ H a R q => h ms B σ H a _ fun v H1 h1 x1 o1 => by
  cases o1 with
  | @lst p vs _ hs ha =>
    refine ⟨p, rfl, .inl ⟨⟨vs, sql_mono cut_le hs⟩, q _ H1 h1 x1 ⟨fun H => SqL K H p vs, YAt vs, ?_, fun ms' H2 s => ⟨sql_mono (s.trans cut_le) hs, fun i x H3 l y => ?_⟩⟩⟩⟩
    · rw [← dpa_len ha]; exact walk_list
    · obtain ⟨rfl, e⟩ := y
      refine ⟨Same.refl _, fun d hd => ?_⟩
      obtain ⟨d', e', o⟩ := dpa_get ha e
      rw [hd] at e'
      cases e'
      exact dp_mono s _ _ o
theorem src_seqT (h : Evd K W tl ρ (.tuple ds)) : Src K W (iSeq K tl) ρ ds := fun ms B σ H a R q => h ms B σ H a _ fun v H1 h1 x1 o1 => by
  cases o1 with
  | @tup p vs _ hs ha =>
    refine ⟨p, rfl, .inr ⟨⟨vs, sqt_mono cut_le hs⟩, q _ H1 h1 x1 ⟨fun H => SqT K H p vs, YAt vs, ?_, fun ms' H2 s => ⟨sqt_mono (s.trans cut_le) hs, fun i x H3 l y => ?_⟩⟩⟩⟩
    · rw [← dpa_len ha]; exact walk_tup
    · obtain ⟨rfl, e⟩ := y
      refine ⟨Same.refl _, fun d hd => ?_⟩
      obtain ⟨d', e', o⟩ := dpa_get ha e
      rw [hd] at e'
      cases e'
      exact dp_mono s _ _ o
/-- data that is a list or a tuple -/
def sq (b : Bool) (ds : List PyData) : PyData := if b then .list ds else .tuple ds
theorem src_seq {b : Bool} (h : Evd K W tl ρ (sq b ds)) : Src K W (iSeq K tl) ρ ds := by
  cases b with
  | true => exact src_seqL h
  | false => exact src_seqT h
theorem ev_lenS {b : Bool} (h : Evd K W te ρ (sq b ds)) : Evd K W (tCB (rLenQ K) (tCons te tNil)) ρ (.int (ds.length : Int)) := by
  cases b with
  | true => exact ev_lenL h
  | false => exact ev_lenT h
theorem ev_ixS {b : Bool} {i : Int} (ha : Evd K W ta ρ (sq b ds)) (hb : Evd K W tb ρ (.int i)) (h : atI ds i = some d) : Evd K W (tOp (rIx K) ta tb) ρ d := ev_op ha hb fun ms H x y l hx hy Q q => by
  cases b with
  | true => exact .inl (rs_ixL h ms H x y l hx hy Q q)
  | false => exact .inr (.inl (rs_ixT h ms H x y l hx hy Q q))
theorem ev_isiLT {b : Bool} (h : Evd K W te ρ (sq b ds)) : Evd K W (tCB (rIsiT K) (tCons te (tCons (tTup (tCons (tC (.ty "list")) (tCons (tC (.ty "tuple")) tNil))) tNil))) ρ (.bool true) := by
  cases b with
  | true =>
    refine ev_isi2 h ?_
    have e : PySem.W.kitOne K (.type "list") (.type "list") = some true := kit_ty (by decide +kernel)
    show PySem.W.kitAny K (.type "list") _ = _
    unfold PySem.W.kitAny
    rw [e]
  | false =>
    refine ev_isi2 h ?_
    have e : PySem.W.kitOne K (.type "tuple") (.type "list") = some false := kit_ty (by decide +kernel)
    have e2 : PySem.W.kitOne K (.type "tuple") (.type "tuple") = some true := kit_ty (by decide +kernel)
    show PySem.W.kitAny K (.type "tuple") _ = _
    unfold PySem.W.kitAny
    rw [e]
    show PySem.W.kitAny K (.type "tuple") _ = _
    unfold PySem.W.kitAny
    rw [e2]
theorem ev_repr {te : TE} (h : Evd K W te ρ d) (hs : d.showable = true) (hn : d.hasDict = false) (hz : d.depth ≤ 60) (hl : d.shown.length ≤ sizeLine) (hr : (∃ ds, d = .list ds) ∨ ∃ ds, d = .tuple ds) : Evd K W (tCB (rReprD K) (tCons te tNil)) ρ (.str d.shown) :=
  ev_cb (ed_cons h ed_nil) (rc1 fun ms H v l o Q q => by
    have o' := dp_mono cut_le _ _ o
    rcases hr with ⟨ds, rfl⟩ | ⟨ds, rfl⟩
    · cases o' with
      | lst h1 h2 => exact ⟨_, _, rfl, .lst h1 h2, hs, hn, hz, hl, q _ H (Same.refl H) (.str _)⟩
    · cases o' with
      | tup h1 h2 => exact ⟨_, _, rfl, .tup h1 h2, hs, hn, hz, hl, q _ H (Same.refl H) (.str _)⟩)
/-- keywords alone, put in the parameters' order -/
theorem ev_callK {G : List PyData → PyData → Prop} {tk : TA} {gV : List V → List V → List V} {gD : List PyData → List PyData} {E : XK} (h : EvD K W tk ρ ds) (hg : G (gD ds) d) (hp : ∀ (H : Hp) (vs : List V), DpAll K H vs ds → DpAll K H (gV [] vs) (gD ds)) : Evd K W (tCallK (spP K G) gV E tNil tk) ρ d := fun ms B σ H a Q q => h ms B σ H a _ fun vs H1 h1 x1 o1 =>
  ⟨ms, gD ds, d, h1.live, hp _ _ o1, hg, fun v H2 s2 o2 => q v H2 (h1.same s2) (x1.trans (.of_same s2)) o2⟩
end
theorem kb_NoneType_bool : kitB "NoneType" "bool" = some false := by decide +kernel
theorem kb_NoneType_int : kitB "NoneType" "int" = some false := by decide +kernel
theorem kb_NoneType_str : kitB "NoneType" "str" = some false := by decide +kernel
theorem kb_NoneType_list : kitB "NoneType" "list" = some false := by decide +kernel
theorem kb_NoneType_tuple : kitB "NoneType" "tuple" = some false := by decide +kernel
theorem kb_NoneType_dict : kitB "NoneType" "dict" = some false := by decide +kernel
theorem kb_bool_bool : kitB "bool" "bool" = some true := by decide +kernel
theorem kb_bool_int : kitB "bool" "int" = some true := by decide +kernel
theorem kb_bool_str : kitB "bool" "str" = some false := by decide +kernel
theorem kb_bool_list : kitB "bool" "list" = some false := by decide +kernel
theorem kb_bool_tuple : kitB "bool" "tuple" = some false := by decide +kernel
theorem kb_bool_dict : kitB "bool" "dict" = some false := by decide +kernel
theorem kb_int_bool : kitB "int" "bool" = some false := by decide +kernel
theorem kb_int_int : kitB "int" "int" = some true := by decide +kernel
theorem kb_int_str : kitB "int" "str" = some false := by decide +kernel
theorem kb_int_list : kitB "int" "list" = some false := by decide +kernel
theorem kb_int_tuple : kitB "int" "tuple" = some false := by decide +kernel
theorem kb_int_dict : kitB "int" "dict" = some false := by decide +kernel
theorem kb_str_bool : kitB "str" "bool" = some false := by decide +kernel
theorem kb_str_int : kitB "str" "int" = some false := by decide +kernel
theorem kb_str_str : kitB "str" "str" = some true := by decide +kernel
theorem kb_str_list : kitB "str" "list" = some false := by decide +kernel
theorem kb_str_tuple : kitB "str" "tuple" = some false := by decide +kernel
theorem kb_str_dict : kitB "str" "dict" = some false := by decide +kernel
theorem kb_list_bool : kitB "list" "bool" = some false := by decide +kernel
theorem kb_list_int : kitB "list" "int" = some false := by decide +kernel
theorem kb_list_str : kitB "list" "str" = some false := by decide +kernel
theorem kb_list_list : kitB "list" "list" = some true := by decide +kernel
theorem kb_list_tuple : kitB "list" "tuple" = some false := by decide +kernel
theorem kb_list_dict : kitB "list" "dict" = some false := by decide +kernel
theorem kb_tuple_bool : kitB "tuple" "bool" = some false := by decide +kernel
theorem kb_tuple_int : kitB "tuple" "int" = some false := by decide +kernel
theorem kb_tuple_str : kitB "tuple" "str" = some false := by decide +kernel
theorem kb_tuple_list : kitB "tuple" "list" = some false := by decide +kernel
theorem kb_tuple_tuple : kitB "tuple" "tuple" = some true := by decide +kernel
theorem kb_tuple_dict : kitB "tuple" "dict" = some false := by decide +kernel
theorem kb_dict_bool : kitB "dict" "bool" = some false := by decide +kernel
theorem kb_dict_int : kitB "dict" "int" = some false := by decide +kernel
theorem kb_dict_str : kitB "dict" "str" = some false := by decide +kernel
theorem kb_dict_list : kitB "dict" "list" = some false := by decide +kernel
theorem kb_dict_tuple : kitB "dict" "tuple" = some false := by decide +kernel
theorem kb_dict_dict : kitB "dict" "dict" = some true := by decide +kernel
end Fw

/-! The frame, 5: lists of one's own: made, grown, lent. -/
namespace Fw
open PySem L2
open PyProof.Rows (envOfC)
section
variable {K : PySem.W.Frag} {W : Wd} {ms : List Addr} {B : Bs} {H H' : Hp} {ρ ρ' ρ1 : List Sl} {σ σ' : St} {d : PyData} {ds : List PyData} {s : Sl} {v : V} {vs : List V} {l : Addr} {i : Nat}
  {ta tb tc te tx tl ti : TE} {tt t u : TT} {wi : TI} {g : TG} {D : Ends} {ts ts' tz : TS}
theorem At.freshB (h : At K W ms B ρ σ H) (hl : H l = none) : B.hb l = none := by
  have hm := (h.fresh hl).2.1
  cases q : B.hb l with
  | none => rfl
  | some o =>
    have e := h.st l o (by rw [cut_out hm]; exact q)
    rw [cut_out hm, hl] at e
    cases e
/-- what one owns: a list at l, apart from the data -/
structure Own (K : PySem.W.Frag) (W : Wd) (ms : List Addr) (B : Bs) (l : Addr) (ds : List PyData) (H : Hp) : Prop where
  mem : l ∈ ms
  nws : l ∉ W.ws
  h0 : B.h0 l = none
  val : ∃ vs, H l = some (.lst vs) ∧ DpAll K (cut ms H) vs ds
theorem Own.go (o : Own K W ms B l ds H) (sub : ∀ a ∈ W.ws, a ∈ ms) (x : XW W.ws H H') : Own K W ms B l ds H' := by
  obtain ⟨vs, e, d⟩ := o.val
  exact ⟨o.mem, o.nws, o.h0, vs, x l _ o.nws e, dpa_mono (x.cut sub) _ _ d⟩
theorem Own.same (o : Own K W ms B l ds H) (s : Same H H') : Own K W ms B l ds H' := by
  obtain ⟨vs, e, d⟩ := o.val
  exact ⟨o.mem, o.nws, o.h0, vs, s _ _ e, dpa_mono (fun a u q => by
    by_cases z : a ∈ ms
    · rw [cut_in z] at q; cases q
    · rw [cut_out z] at q ⊢
      exact s _ _ q) _ _ d⟩
theorem Own.re (o : Own K W ms B l ds H) (b : Hp) : Own K W ms ⟨B.h0, b⟩ l ds H := ⟨o.mem, o.nws, o.h0, o.val⟩
theorem Own.un {b : Hp} (o : Own K W ms ⟨B.h0, b⟩ l ds H) : Own K W ms B l ds H := ⟨o.mem, o.nws, o.h0, o.val⟩
/-- a list that came new is taken as one's own -/
theorem At.adopt (h : At K W ms B ρ σ H) (x : XW W.ws H H') (g : At K W ms B ρ σ H') (hl : H l = none) {o : HO} (e : H' l = some o) : At K W (l :: ms) B ρ σ H' := by
  have m1 : Same (cut ms H) (cut (l :: ms) H') := (cut_new hl).trans (x.cut fun a z => List.mem_cons_of_mem _ (h.sub a z))
  refine ⟨fun a z => List.mem_cons_of_mem _ (h.sub a z), fun a z => ?_, h.env.mono m1, g.p, g.xw, cut_cons.trans (h.st.trans m1), W.mono _ _ m1 h.c⟩
  rcases List.mem_cons.mp z with q | q
  · subst q; exact ⟨o, e⟩
  · exact g.live a q
/-- one's own list read as data -/
theorem At.lend (h : At K W (l :: ms) B ρ σ H) (o : Own K W (l :: ms) B l ds H) (hm : l ∉ ms) (hb : B.hb l = none) (hr : ρ[i]? = some (.raw (.ref l))) : At K W ms B (ρ.set i (.dat (.list ds))) σ H := by
  obtain ⟨vs, e, dd⟩ := o.val
  have hd : Dp K (cut ms H) (.ref l) (.list ds) := .lst (.inl (.inl (by rw [cut_out hm]; exact e))) (dpa_mono cut_cons _ _ dd)
  refine ⟨fun a z => ?_, fun a z => h.live a (List.mem_cons_of_mem _ z), ?_, h.p, h.xw, (cut_new hb).trans (h.st.trans cut_cons), W.mono _ _ cut_cons h.c⟩
  · rcases List.mem_cons.mp (h.sub a z) with q | q
    · exact absurd (q ▸ z) o.nws
    · exact q
  · obtain ⟨w, ew, ow⟩ := h.env.get hr (by intro q; cases q)
    have ew' : w = .ref l := ow
    subst ew'
    have hx := (h.env.mono (cut_cons (ms := ms) (H := H))).set (s := .dat (.list ds)) (o := some (.ref l)) hd i
    have es : σ.set i (some (.ref l)) = σ := by
      apply List.ext_getElem?
      intro j
      by_cases q : i = j
      · subst q
        rw [List.getElem?_set_self', ew]
        rfl
      · rw [List.getElem?_set_ne q]
    rw [es] at hx
    exact hx
theorem ef_lst {ta : TA} (h : EvD K W ta ρ ds) (hl : ds.length ≤ 100000) : EvF K W (tLst ta) ρ (· = ds) := fun ms B σ H g Q q => h ms B σ H g _ fun vs H1 g1 x1 o1 =>
  ⟨by rw [dpa_len o1]; exact le_line hl, fun p hp => by
    have hp0 : H p = none := by
      have hw := (g1.fresh hp).2.2
      cases q : H p with
      | none => rfl
      | some o => rw [x1 p o hw q] at hp; cases hp
    exact q ds p vs _ rfl (g1.same (same_put hp)) (x1.trans (.of_same (same_put hp))) hp0 upd_same (dpa_mono ((cut_new hp).trans cut_drop) _ _ o1)⟩
theorem ev_of_ef (h : EvF K W te ρ (· = ds)) : Evd K W te ρ (.list ds) := ev_of_en ((en_of_ef h).imp fun s ⟨es, e, q⟩ => by rw [e, q])
theorem flat_rep {α : Type} (n : Nat) (x : α) : (List.replicate n [x]).flatten = List.replicate n x := by
  induction n with
  | zero => rfl
  | succ n ih => rw [List.replicate_succ, List.flatten_cons, ih, List.replicate_succ]; rfl
theorem dpa_rep {n : Nat} (h : Dp K H v d) : DpAll K H (List.replicate n v) (List.replicate n d) := by
  induction n with
  | zero => exact .nil
  | succ n ih => rw [List.replicate_succ, List.replicate_succ]; exact .cons h ih
/-- [x] * n -/
theorem ef_rep {ta : TA} {n : Nat} (h : EvD K W ta ρ [d]) (hn : Evd K W tb ρ (.int (n : Int))) (hz : n ≤ 100000) : EvF K W (tOp rRep (tLst ta) tb) ρ (· = List.replicate n d) := fun ms B σ H g Q q =>
  ef_lst h (by show 1 ≤ 100000; omega) ms B σ H g _ fun ds p vs H1 φ g1 x1 hp e1 o1 => hn ms B σ H1 g1 _ fun y H2 g2 x2 oy => by
    subst φ
    cases oy
    cases o1 with
    | @cons v _ _ _ o1 o2 =>
      cases o2
      have hw : p ∉ W.ws := fun z => g.live.fresh hp (g.sub p z)
      refine ⟨p, n, [v], rfl, rfl, x2 p _ hw e1, by omega, by omega, by rw [List.length_singleton]; show 1 * (n : Int).toNat ≤ sizeLine; rw [Int.toNat_natCast]; exact Nat.le_trans (by omega) (show 100000 ≤ sizeLine by decide), fun p2 hp2 => ?_⟩
      rw [Int.toNat_natCast, flat_rep]
      have hw2 := (g2.fresh hp2).2.2
      have hp0 : H p2 = none := by
        cases q : H p2 with
        | none => rfl
        | some o => rw [(x1.trans x2) p2 o hw2 q] at hp2; cases hp2
      refine q _ p2 _ _ rfl (g2.same (same_put hp2)) ((x1.trans x2).trans (.of_same (same_put hp2))) hp0 upd_same (dpa_rep (dp_mono ?_ _ _ o1))
      have sub : ∀ a ∈ W.ws, a ∈ p :: ms := fun a z => List.mem_cons_of_mem _ (g.sub a z)
      exact (x2.cut sub).trans (cut_cons.trans ((cut_new hp2).trans cut_drop))
/-- list(xs) -/
theorem ef_list (h : Evd K W te ρ (.list ds)) : EvF K W (tCB (rLstOf K) (tCons te tNil)) ρ (· = ds) := fun ms B σ H g Q q => h ms B σ H g _ fun v H1 g1 x1 o1 => by
  cases o1 with
  | lst hs ha =>
    refine ⟨_, _, rfl, .inl (sql_mono cut_le hs), fun p hp => ?_⟩
    have hw := (g1.fresh hp).2.2
    have hp0 : H p = none := by
      cases q : H p with
      | none => rfl
      | some o => rw [x1 p o hw q] at hp; cases hp
    exact q _ p _ _ rfl (g1.same (same_put hp)) (x1.trans (.of_same (same_put hp))) hp0 upd_same (dpa_mono ((cut_new hp).trans cut_drop) _ _ ha)
theorem ef_lc0 {α : Type} {xs : List α} {enc f : α → PyData} {j : Nat} (sr : Src K W wi ρ (xs.map enc)) (hz : xs.length ≤ 16000000) (he : ∀ x ∈ xs, Evd K W te ((ρ.set j .emp).set j (.dat (enc x))) (f x)) :
    EvF K W (tLc wi (gName j) tYes te [j]) ρ (· = xs.map f) := by
  refine (ef_lc (K := K) (W := W) (g := gName j) (tt := tYes) (te := te) (p := fun _ => true) (Φ := fun x d => d = f x) (vs := [j]) (S := fun x => (ρ.set j .emp).set j (.dat (enc x))) sr hz (fun x _ => ⟨[j], tg_name, fun _ z => z⟩) (fun _ _ => et_yes) fun x hx _ => en_of_ev (he x hx) ⟨_, rfl, rfl⟩).imp fun es pr => ?_
  rw [List.filter_eq_self.mpr fun _ _ => rfl] at pr
  exact paired_map pr
theorem ev_lcN {α : Type} {xs : List α} {enc f : α → PyData} {vs : List Nat} {S : α → List Sl} (sr : Src K W wi ρ (xs.map enc)) (hz : xs.length ≤ 16000000)
    (tg : ∀ x ∈ xs, ∃ js, Tg K W g js (enc x) (wipeR ρ vs) (S x) ∧ ∀ j ∈ js, j ∈ vs) (he : ∀ x ∈ xs, Evd K W te (S x) (f x)) : Evd K W (tLc wi g tYes te vs) ρ (.list (xs.map f)) := by
  have h := ev_lc (tt := tYes) (p := fun _ => true) (f := f) (te := te) sr hz tg (fun _ _ => et_yes) fun x hx _ => he x hx
  rw [List.filter_eq_self.mpr fun _ _ => rfl] at h
  exact h
theorem zip_tup {α β : Type} {e1 : α → PyData} {e2 : β → PyData} : ∀ (xs : List α) (ys : List β), List.zipWith (fun a b => PyData.tuple [a, b]) (xs.map e1) (ys.map e2) = (xs.zip ys).map fun p => .tuple [e1 p.1, e2 p.2]
  | [], _ => rfl
  | _ :: _, [] => rfl
  | x :: xs, y :: ys => by
    rw [List.map_cons, List.map_cons, List.zipWith_cons_cons, zip_tup xs ys]
    rfl
theorem s_par3 {i j l : Nat} {ta : TA} {s1 s2 s3 : Sl} (h : At K W ms B ρ σ H) (e : EvA K W ta ρ [s1, s2, s3]) (k : ∀ σ' H', At K W ms B (((ρ.set i s1).set j s2).set l s3) σ' H' → XW W.ws H H' → D.nx σ' H') : tPar3 i j l ta D σ H :=
  e ms B σ H h _ fun vs H1 h1 x1 o1 => by
    cases o1 with
    | cons o1 o2 =>
      cases o2 with
      | cons o2 o3 =>
        cases o3 with
        | cons o3 o4 =>
          cases o4
          exact ⟨_, _, _, rfl, k _ H1 (((h1.set o1 i).set o2 j).set o3 l) x1⟩
theorem q_par3 {i j l : Nat} {ta : TA} {s1 s2 s3 : Sl} (h : At K W ms B ρ σ H) (e : EvA K W ta ρ [s1, s2, s3]) (k : ∀ σ' H', At K W ms B (((ρ.set i s1).set j s2).set l s3) σ' H' → XW W.ws H H' → tz D σ' H') : tSeq (tPar3 i j l ta) tz D σ H :=
  s_par3 (D := { D with nx := tz D }) h e k
theorem q_for {R S : Nat → List Sl} {X : Nat → Hp → Prop} (h : At K W ms B ρ σ H) (sr : Src K W wi ρ ds) (l0 : Le (R 0) ρ) (x0 : ∀ H1, At K W ms B ρ σ H1 → XW W.ws H H1 → X 0 H1)
    (tg : ∀ i d, ds[i]? = some d → ∃ js, Tg K W g js d (R i) (S i))
    (hs : ∀ Hb i d σ' H', ds[i]? = some d → At K W ms ⟨B.h0, Hb⟩ (S i) σ' H' → X i H' → ts { D with nx := fun σ H => At K W ms ⟨B.h0, Hb⟩ (R (i + 1)) σ H ∧ X (i + 1) H, ct := fun σ H => At K W ms ⟨B.h0, Hb⟩ (R (i + 1)) σ H ∧ X (i + 1) H, bk := tz D } σ' H')
    (hd : ∀ σ' H', At K W ms B (R ds.length) σ' H' → X ds.length H' → tz D σ' H') (xs : ∀ i H H', Same H H' → Live ms H → X i H → X i H') : tSeq (tFor wi g ts) tz D σ H :=
  s_for (D := { D with nx := tz D }) h sr l0 x0 (fun i H H' s a x => xs i H H' s a.live x) tg hs hd xs
/-- whatever is looked back to for the data -/
theorem At.un' {b : Hp} (h : At K W ms B ρ σ H) (g : At K W ms ⟨B.h0, b⟩ ρ' σ' H') (x : Same (cut ms B.hb) (cut ms H')) : At K W ms B ρ' σ' H' := ⟨g.sub, g.live, g.env, g.p, g.xw, x, g.c⟩
/-- a word between a statement and what follows -/
theorem q_cut (M : L2.St → Hp → Prop) (h : ∀ Z : L2.St → Hp → Prop, (∀ σ' H', M σ' H' → Z σ' H') → ts { D with nx := Z } σ H) (k : ∀ σ' H', M σ' H' → tz D σ' H') : tSeq ts tz D σ H := h _ k
/-- x = a new list, as one's own -/
theorem s_own {Φ : List PyData → Prop} (h : At K W ms B ρ σ H) (e : EvF K W te ρ Φ) (k : ∀ l ds σ' H', Φ ds → At K W (l :: ms) B (ρ.set i (.raw (.ref l))) σ' H' → Own K W (l :: ms) B l ds H' → l ∉ ms → B.hb l = none → D.nx σ' H') : tAsg te (gName i) D σ H :=
  e ms B σ H h _ fun ds l vs H1 φ h1 x1 hl e1 o1 => by
    obtain ⟨l0, lm, lw⟩ := h.fresh hl
    exact k l ds _ _ φ ((h.adopt x1 h1 hl e1).set (s := .raw (.ref l)) rfl i) ⟨List.mem_cons_self, lw, l0, vs, e1, o1⟩ lm (h.freshB hl)
theorem q_own' {Φ : List PyData → Prop} (h : At K W ms B ρ σ H) (e : EvF K W te ρ Φ) (k : ∀ l ds σ' H', Φ ds → At K W (l :: ms) B (ρ.set i (.raw (.ref l))) σ' H' → Own K W (l :: ms) B l ds H' → l ∉ ms → B.hb l = none → tz D σ' H') : tSeq (tAsg te (gName i)) tz D σ H :=
  s_own (D := { D with nx := tz D }) h e k
/-- l.append(e) -/
theorem s_app {Φ : PyData → Prop} (h : At K W ms B ρ σ H) (o : Own K W ms B l ds H) (hr : ρ[i]? = some (.raw (.ref l))) (hz : ds.length < 100000) (e : En K W te ρ fun s => ∃ d, s = .dat d ∧ Φ d)
    (k : ∀ d H', Φ d → At K W ms B ρ σ H' → Own K W ms B l (ds ++ [d]) H' → D.nx σ H') : tDrop (tBM K "list" rAppend (tVar i) (tCons te tNil)) D σ H := by
  obtain ⟨w, ew, ow⟩ := h.env.get hr (by intro q; cases q)
  obtain rfl : w = .ref l := ow
  obtain ⟨vs, el, dd⟩ := o.val
  refine ⟨_, ew, .inl ⟨rfl, _, .inl (.inl el)⟩, e ms B σ H h _ fun s v H1 φ h1 x1 o1 => ?_⟩
  obtain ⟨d, rfl, φ⟩ := φ
  have e1 := x1 l _ o.nws el
  refine ⟨l, vs, v, rfl, rfl, e1, Nat.lt_of_lt_of_le (by rw [dpa_len dd]; exact hz) (show 100000 ≤ sizeLine by decide), ?_⟩
  have d1 := dpa_mono (x1.cut h.sub) _ _ dd
  exact k d _ φ (h1.write o.mem o.nws o.h0) ⟨o.mem, o.nws, o.h0, vs ++ [v], upd_same, dpa_mono (cut_put (.inl o.mem)) _ _ (dpa_snoc d1 o1)⟩
theorem q_app {Φ : PyData → Prop} (h : At K W ms B ρ σ H) (o : Own K W ms B l ds H) (hr : ρ[i]? = some (.raw (.ref l))) (hz : ds.length < 100000) (e : En K W te ρ fun s => ∃ d, s = .dat d ∧ Φ d)
    (k : ∀ d H', Φ d → At K W ms B ρ σ H' → Own K W ms B l (ds ++ [d]) H' → tz D σ H') : tSeq (tDrop (tBM K "list" rAppend (tVar i) (tCons te tNil))) tz D σ H :=
  s_app (D := { D with nx := tz D }) h o hr hz e k
/-- l.reverse() -/
theorem q_rev (h : At K W ms B ρ σ H) (o : Own K W ms B l ds H) (hr : ρ[i]? = some (.raw (.ref l))) (k : ∀ H', At K W ms B ρ σ H' → Own K W ms B l ds.reverse H' → tz D σ H') : tSeq (tDrop (tBM0 K "list" rReverse (tVar i))) tz D σ H := by
  obtain ⟨w, ew, ow⟩ := h.env.get hr (by intro q; cases q)
  obtain rfl : w = .ref l := ow
  obtain ⟨vs, el, dd⟩ := o.val
  refine ⟨_, ew, .inl ⟨rfl, _, .inl (.inl el)⟩, l, vs, rfl, rfl, el, ?_⟩
  exact k _ (h.write o.mem o.nws o.h0) ⟨o.mem, o.nws, o.h0, _, upd_same, dpa_mono (cut_put (.inl o.mem)) _ _ (dpa_rev dd)⟩
/-- l[j] += e, ints -/
theorem s_augL {ns : List Int} {j : Nat} {y : Int} (h : At K W ms B ρ σ H) (o : Own K W ms B l (ns.map .int) H) (hr : ρ[i]? = some (.raw (.ref l))) (hj : j < ns.length) (hz : ns.length ≤ 100000) (ei : Evd K W ti ρ (.int (j : Int))) (ee : Evd K W te ρ (.int y))
    (k : ∀ H', At K W ms B ρ σ H' → Own K W ms B l ((ns.set j (ns[j]?.getD 0 + y)).map .int) H' → D.nx σ H') : tAugS (tVar i) ti te (rGetL K) (ipI fun i j => i + j) rSetL D σ H := by
  obtain ⟨w, ew, ow⟩ := h.env.get hr (by intro q; cases q)
  obtain rfl : w = .ref l := ow
  obtain ⟨vs, el, dd⟩ := o.val
  have ev := dpa_ints dd
  subst ev
  refine ⟨_, ew, ei ms B σ H h _ fun jv H1 h1 x1 o1 => ?_⟩
  cases o1
  have e1 := x1 l _ o.nws el
  have en : ns[j]? = some ns[j] := List.getElem?_eq_getElem hj
  refine ⟨l, ns.map V.int, j, .int ns[j], rfl, rfl, SqL.of e1, by omega, by rw [List.getElem?_map, en]; rfl, ee ms B σ H1 h1 _ fun yv H2 h2 x2 o2 => ?_⟩
  cases o2
  have e2 := x2 l _ o.nws e1
  refine ⟨ns[j], y, rfl, rfl, l, ns.map V.int, j, j, rfl, rfl, e2, ?_, ?_⟩
  · unfold ixN
    rw [if_pos (Int.natCast_nonneg j), if_pos (by rw [List.length_map]; omega), Int.toNat_natCast]
  · refine k _ (h2.write o.mem o.nws o.h0) ⟨o.mem, o.nws, o.h0, (ns.set j (ns[j]?.getD 0 + y)).map V.int, ?_, dpa_of_ints _ _ _⟩
    rw [upd_same, en, List.map_set]
    rfl
/-! ### defs that hand back a new list -/
def spF (K : PySem.W.Frag) (G : List PyData → List PyData → Prop) : Sp := fun vs H Q _ => ∃ (ms : List Addr) (ds : List PyData) (es : List PyData), Live ms H ∧ DpAll K (cut ms H) vs ds ∧ G ds es ∧
  ∀ p ws H', Same H H' → H p = none → H' p = some (.lst ws) → DpAll K (cut (p :: ms) H') ws es → Q (.ref p) H'
theorem ef_call {G : List PyData → List PyData → Prop} {es : List PyData} {ta : TA} {E : XK} (h : EvD K W ta ρ ds) (hg : G ds es) : EvF K W (tCall (spF K G) [] E ta) ρ (· = es) := fun ms B σ H a Q q => h ms B σ H a _ fun vs H1 h1 x1 o1 => by
  show spF K G (vs ++ []) H1 Q E
  rw [List.append_nil]
  refine ⟨ms, ds, es, h1.live, o1, hg, fun p ws H2 s2 hp e2 o2 => ?_⟩
  have hw := (h1.fresh hp).2.2
  have hp0 : H p = none := by
    cases q : H p with
    | none => rfl
    | some o => rw [x1 p o hw q] at hp; cases hp
  exact q es p ws H2 rfl (h1.same s2) (x1.trans (.of_same s2)) hp0 e2 o2
theorem ef_callK {G : List PyData → List PyData → Prop} {es : List PyData} {tk : TA} {gV : List V → List V → List V} {gD : List PyData → List PyData} {E : XK} (h : EvD K W tk ρ ds) (hg : G (gD ds) es) (hp : ∀ (H : Hp) (vs : List V), DpAll K H vs ds → DpAll K H (gV [] vs) (gD ds)) : EvF K W (tCallK (spF K G) gV E tNil tk) ρ (· = es) := fun ms B σ H a Q q => h ms B σ H a _ fun vs H1 h1 x1 o1 => by
  refine ⟨ms, gD ds, es, h1.live, hp _ _ o1, hg, fun p ws H2 s2 hp e2 o2 => ?_⟩
  have hw := (h1.fresh hp).2.2
  have hp0 : H p = none := by
    cases q : H p with
    | none => rfl
    | some o => rw [x1 p o hw q] at hp; cases hp
  exact q es p ws H2 rfl (h1.same s2) (x1.trans (.of_same s2)) hp0 e2 o2
def RunsF (K : PySem.W.Frag) (t : TS) (ρ : List Sl) (es : List PyData) : Prop :=
  ∀ (ms : List Addr) (σ : St) (H : Hp) (Q : VK), At K W0 ms ⟨H, H⟩ ρ σ H → (∀ p ws H', Same H H' → H p = none → H' p = some (.lst ws) → DpAll K (cut (p :: ms) H') ws es → Q (.ref p) H') → t { nx := fun _ H' => Q .non H', rt := Q } σ H
/-- return a new list -/
theorem s_retF {Φ : List PyData → Prop} (h : At K W0 ms B ρ σ H) (e : EvF K W0 te ρ Φ) (k : ∀ es p ws H', Φ es → Same B.h0 H' → B.h0 p = none → H' p = some (.lst ws) → DpAll K (cut (p :: ms) H') ws es → D.rt (.ref p) H') : tRet te D σ H :=
  e ms B σ H h _ fun es p ws H' φ g x hp e o => k es p ws H' φ (g.xw.same) (h.fresh hp).1 e o
section
variable {P : Program} {w : World} {mg : Str → Option Value} {base : Heap}
theorem pureOkF {x qual : Str} {st : Stmt} {f : Addr} {fd : FuncData} {N ps : List Str} {k : Nat} {G : List PyData → List PyData → Prop} (F : Fun K x qual st f fd) (S : FnScope N ps (defScope st)) (hG : ∀ ds d, G ds d → ds.length = ps.length)
    (hb : ∀ (cdv : Value) (A : Around) (outer : List Env) (s : Shared) (H : Hp) (E : XK), Room k (A.deeper (envOfC qual (defScope st) s.heap.objs.size f cdv)) →
      ∃ t, PSs (cxOf CX0 P w K mg base N qual (defScope st) f cdv A outer s H E).nox (defBody st) t ∧ ∀ ds d, G ds d → RunsF K t (slots N.length ds) d) : FnOk P w K mg base CX0 (k + 1) f fd ps (spF K G) := by
  refine F.ok S (fun vs H Q E h => ?_) fun cdv A outer s H vs Q E hr h => ?_
  · obtain ⟨ms, ds, d, l, o, g, _⟩ := h
    rw [dpa_len o, hG ds d g]
  · obtain ⟨ms, ds, d, l, o, g, q⟩ := h
    obtain ⟨t, ht, hr⟩ := hb cdv A outer s H E hr
    exact ⟨t, ht, hr ds d g ms _ H Q (at_start l o) fun p ws H' s hp e od => q p ws H' s hp e od⟩
end
end
end Fw

/-! The frame, 6: the rules again, what is closed in them left to the kernel. -/
namespace Fw
open PySem L2
section
variable {X : Cx} {x : Str} {pos pos' p : Pos} {e : Expr} {es : List Expr} {te : TE} {t : TA} {g : TG}
theorem kvl (i : Nat) (hN : X.N[i]? = some x := by kernel_rfl) (hv : X.env.scope.names.lookup x = some .local := by kernel_rfl) (h1 : (x == ("__debug__" : Str)) = false := by kernel_rfl) (h2 : (x == ("__classdict__" : Str)) = false := by kernel_rfl) : PE X (.Name x pos) (tVar i) := pe_var hN (.inl hv) h1 h2
theorem kvc (i : Nat) (hN : X.N[i]? = some x := by kernel_rfl) (hv : X.env.scope.names.lookup x = some .cell := by kernel_rfl) (h1 : (x == ("__debug__" : Str)) = false := by kernel_rfl) (h2 : (x == ("__classdict__" : Str)) = false := by kernel_rfl) : PE X (.Name x pos) (tVar i) := pe_var hN (.inr (.inl hv)) h1 h2
theorem kvf (i : Nat) (hN : X.N[i]? = some x := by kernel_rfl) (hv : X.env.scope.names.lookup x = some .free := by kernel_rfl) (h1 : (x == ("__debug__" : Str)) = false := by kernel_rfl) (h2 : (x == ("__classdict__" : Str)) = false := by kernel_rfl) : PE X (.Name x pos) (tVar i) := pe_var hN (.inr (.inr hv)) h1 h2
theorem kgl (i : Nat) (nd : X.N.Nodup) (hN : X.N[i]? = some x := by kernel_rfl) (hv : X.env.scope.names.lookup x = some .local := by kernel_rfl) : PG X (.Name x pos) (gName i) := pg_name nd hN (.inl hv) (.inr hv)
theorem kgc (i : Nat) (nd : X.N.Nodup) (hN : X.N[i]? = some x := by kernel_rfl) (hv : X.env.scope.names.lookup x = some .cell := by kernel_rfl) (hf : X.fn x = true := by kernel_rfl) : PG X (.Name x pos) (gName i) := pg_name nd hN (.inr hv) (.inl hf)
theorem kgs {e : Expr} {es : List Expr} {u : TGs} (h1 : PG X e g) (h2 : PGs X es u) (hs : (assignEach (e :: es) X.env).map (·.2) = assign e X.env :: (assignEach es X.env).map (·.2) := by kernel_rfl) : PGs X (e :: es) (gCons g u) := pgs_cons h1 h2 hs
theorem kgt {k n : Nat} {u : TGs} (hc : X.calm = true) (h : PGs X es u) (hn : (assignEach es X.env).length = n := by kernel_rfl) (hs : (assignEach es X.env).findIdx? (·.1) = none := by kernel_rfl) : PG X (.Tuple es k pos) (gTup X.K n u) := pg_tup hc h hn hs
theorem ksl (i : Nat) (nd : X.N.Nodup) (he : PE X e te) (hN : X.N[i]? = some x := by kernel_rfl) (hv : X.env.scope.names.lookup x = some .local := by kernel_rfl) (hs : swapsWith e (some (.Name x pos')) pos.line X.env = pure false := by kernel_rfl) : PS X (.Assign [.Name x pos'] e pos) (tAsg te (gName i)) := ps_set nd hN (.inl hv) he hs (.inr hv)
theorem ksc (i : Nat) (nd : X.N.Nodup) (he : PE X e te) (hN : X.N[i]? = some x := by kernel_rfl) (hv : X.env.scope.names.lookup x = some .cell := by kernel_rfl) (hs : swapsWith e (some (.Name x pos')) pos.line X.env = pure false := by kernel_rfl) (hf : X.fn x = true := by kernel_rfl) : PS X (.Assign [.Name x pos'] e pos) (tAsg te (gName i)) := ps_set nd hN (.inr hv) he hs (.inl hf)
theorem kpa (ha : PE X e te) (hr : PA X es t) (hs : starEach (e :: es) X.env = (false, eval e X.env) :: starEach es X.env := by kernel_rfl) : PA X (e :: es) (tCons te t) := pa_cons ha hr hs
theorem kasg {tg : Expr} (he : PE X e te) (hg : PG X tg g) (h1 : swapsWithSole [tg] e pos.line X.env = pure false := by kernel_rfl) (h2 : swappedStores [tg] e X.env = pure none := by kernel_rfl) (h3 : (assignEach [tg] X.env).map (·.2) = [assign tg X.env] := by kernel_rfl) : PS X (.Assign [tg] e pos) (tAsg te g) := ps_asg he hg h1 h2 h3
theorem kexpr (he : PE X e te) (hs : swapsWith e none pos.line X.env = pure false := by kernel_rfl) : PS X (.Expr e pos) (tDrop te) := ps_expr he hs
theorem kcall {k : Nat} {f : Addr} {fd : FuncData} {ps : List Str} {sp : Sp} (F : FnOk X.prog X.w X.K X.mg X.base CX0 k f fd ps sp) (hr : Room k X.A) (hm : X.mg x = some (.ref f)) (hk : PySem.W.keepIn X.K (.ref f) = true) (hb : Binds X.K fd ps []) (ha : PA X (e :: es) t)
    (hg : X.env.kindOf x = some .globalImplicit := by kernel_rfl) (h1 : (x == ("__debug__" : Str)) = false := by kernel_rfl) (h2 : starEach (e :: es) X.env = (false, eval e X.env) :: starEach es X.env := by kernel_rfl) (h3 : (backTo pos (starEach es X.env)).any (·.1) = false := by kernel_rfl) :
    PE X (.Call (.Name x p) (e :: es) [] pos) (tCall sp [] E0 t) := pe_call F hr hg hm hk hb .nil pass0 ha h1 h2 h3
theorem kB {id : String} {r : List V → Hp → VK → Prop} (hc : CallR X (.builtin id) r) (hm : X.mg x = none) (ha : PA X (e :: es) t) (hg : X.env.kindOf x = some .globalImplicit := by kernel_rfl) (hv : bootBuiltins x = some (.builtin id) := by kernel_rfl) (hn : (x == ("__name__" : Str)) = false := by kernel_rfl) (h1 : (x == ("__debug__" : Str)) = false := by kernel_rfl)
    (h2 : starEach (e :: es) X.env = (false, eval e X.env) :: starEach es X.env := by kernel_rfl) (h3 : (backTo pos (starEach es X.env)).any (·.1) = false := by kernel_rfl) : PE X (.Call (.Name x p) (e :: es) [] pos) (tCB r t) := pe_callB hc hg hm hv ha (fun q => by subst q; exact absurd hn (by decide +kernel)) h1 h2 h3
theorem kTy {T : String} {r : List V → Hp → VK → Prop} (hc : CallR X (.type T) r) (hm : X.mg x = none) (ha : PA X (e :: es) t) (hg : X.env.kindOf x = some .globalImplicit := by kernel_rfl) (hv : bootBuiltins x = some (.type T) := by kernel_rfl) (hn : (x == ("__name__" : Str)) = false := by kernel_rfl) (h1 : (x == ("__debug__" : Str)) = false := by kernel_rfl)
    (h2 : starEach (e :: es) X.env = (false, eval e X.env) :: starEach es X.env := by kernel_rfl) (h3 : (backTo pos (starEach es X.env)).any (·.1) = false := by kernel_rfl) : PE X (.Call (.Name x p) (e :: es) [] pos) (tCB r t) := pe_callTy hc hg hm hv ha (fun q => by subst q; exact absurd hn (by decide +kernel)) h1 h2 h3
theorem kBf {id : String} {r : List V → Hp → VK → Prop} (hc : CallR X (.builtin id) r) (hm : X.mg x = some (.builtin id)) (ha : PA X (e :: es) t) (hg : X.env.kindOf x = some .globalImplicit := by kernel_rfl) (h1 : (x == ("__debug__" : Str)) = false := by kernel_rfl)
    (h2 : starEach (e :: es) X.env = (false, eval e X.env) :: starEach es X.env := by kernel_rfl) (h3 : (backTo pos (starEach es X.env)).any (·.1) = false := by kernel_rfl) : PE X (.Call (.Name x p) (e :: es) [] pos) (tCB r t) := pe_callBfun hc hg hm ha h1 h2 h3
theorem kty {T : String} (hm : X.mg x = none) (hg : X.env.kindOf x = some .globalImplicit := by kernel_rfl) (hv : bootBuiltins x = some (.type T) := by kernel_rfl) (hn : (x == ("__name__" : Str)) = false := by kernel_rfl) (h1 : (x == ("__debug__" : Str)) = false := by kernel_rfl) : PE X (.Name x pos) (tC (.ty T)) :=
  pe_bltn (v := .ty T) hg hm hv rfl (fun q => by subst q; exact absurd hn (by decide +kernel)) h1
theorem kgc' {v : V} (h : ∃ u, X.mg x = some u ∧ RelV v u) (hg : X.env.kindOf x = some .globalImplicit := by kernel_rfl) (h1 : (x == ("__debug__" : Str)) = false := by kernel_rfl) : PE X (.Name x pos) (tC v) := C8.pe_gc hg h h1
theorem krg1 {tg a : Expr} {ta : TA} (hm : X.mg "range" = none) (ha : PA X [a] ta) (hg : X.env.kindOf "range" = some .globalImplicit := by kernel_rfl) (hs : starEach [a] X.env = [(false, eval a X.env)] := by kernel_rfl) : PI X tg (.Call (.Name "range" p) [a] [] pos) (iRng1 ta) := pi_range1 hg hm ha hs
theorem krg2 {tg a b : Expr} {ta : TA} (hm : X.mg "range" = none) (ha : PA X [a, b] ta) (hg : X.env.kindOf "range" = some .globalImplicit := by kernel_rfl) (hs : starEach [a, b] X.env = [(false, eval a X.env), (false, eval b X.env)] := by kernel_rfl) (hs2 : starEach [b] X.env = [(false, eval b X.env)] := by kernel_rfl) : PI X tg (.Call (.Name "range" p) [a, b] [] pos) (iRng2 ta) := pi_range2 hg hm ha hs hs2
theorem kzip {elts : List Expr} {kk : Nat} {tpos : Pos} {e e2 : Expr} {ta : TA} (hm : X.mg "zip" = none) (ha : PA X [e, e2] ta) (hg : X.env.kindOf "zip" = some .globalImplicit := by kernel_rfl) (hs : starEach [e, e2] X.env = (false, eval e X.env) :: starEach [e2] X.env := by kernel_rfl) (h3 : (backTo pos (starEach [e2] X.env)).any (·.1) = false := by kernel_rfl) : PI X (.Tuple elts kk tpos) (.Call (.Name "zip" p) [e, e2] [] pos) (RZ.iZipA X.K ta) := RZ.pi_zipA hg hm ha hs h3
theorem kmeth0 {T m : String} {name : Str} {id : String} {r : V → List V → Hp → VK → Prop} {o : Expr} {to : TE} {apos : Pos} (pa : PlainAttrs T) (slot : Slot T name id) (hty : typeOf (.builtin id) = pure (.type "method_descriptor")) (hm : MtR X id r) (ho : PE X o to)
    (h1 : attributeBase o name X.env (eval o X.env) = eval o X.env := by kernel_rfl) (h2 : (apos.endLine == pos.line) = true := by kernel_rfl) : PE X (.Call (.Attribute o name apos) [] [] pos) (tBM0 X.K T r to) := pe_bm0 pa slot hty hm ho h1 h2
theorem kmeth {T : String} {name : Str} {id : String} {r : V → List V → Hp → VK → Prop} {o : Expr} {to : TE} {apos : Pos} (pa : PlainAttrs T) (slot : Slot T name id) (hty : typeOf (.builtin id) = pure (.type "method_descriptor")) (hm : MtR X id r) (ho : PE X o to) (ha : PA X (e :: es) t)
    (h1 : attributeBase o name X.env (eval o X.env) = eval o X.env := by kernel_rfl)
    (h2 : ((backTo pos (starEach (e :: es) X.env)).all (fun x => !x.1) && (backToKw pos (keywordEach [] X.env)).all (fun x => x.1.isSome) && decide ((e :: es).length + ([] : List Keyword).length + (if ([] : List Keyword).isEmpty then 0 else 1) < 30)) = true := by kernel_rfl)
    (h3 : (apos.endLine == pos.line) = true := by kernel_rfl) (h4 : starEach (e :: es) X.env = (false, eval e X.env) :: starEach es X.env := by kernel_rfl) (h5 : (backTo pos (starEach es X.env)).any (·.1) = false := by kernel_rfl) : PE X (.Call (.Attribute o name apos) (e :: es) [] pos) (tBM X.K T r to t) := pe_bm pa slot hty hm ho ha h1 h2 h3 h4 h5
theorem kswap {elt : Expr} {gs : List Comprehension} {scope : Scope} {pos py : Pos} {y : Str} {l : Nat} {env : Env} (hk : env.scope.kind = .function := by kernel_rfl) (hy : env.scope.names.lookup y = some .local := by kernel_rfl) (hl : (py.line == pos.line) = true := by kernel_rfl)
    (ha : (scope.names.any fun (n, k) => n == y && (k == .local || k == .cell)) = false := by kernel_rfl) : swapsWith (.ListComp elt gs scope pos) (some (.Name y py)) l env = pure true := sw_true hk hy hl ha
theorem kpar {i j : Nat} {x y : Str} {a b : Expr} {ta : TA} {px py pt : Pos} {kt k2 pt2} (hc : X.calm = true) (hN : X.N.Nodup) (hij : i ≠ j) (ha : PA X [a, b] ta) (hi : X.N[i]? = some x := by kernel_rfl) (hj : X.N[j]? = some y := by kernel_rfl)
    (hx : X.env.scope.names.lookup x = some .local := by kernel_rfl) (hy : X.env.scope.names.lookup y = some .local := by kernel_rfl) (hw : swappedStores [.Tuple [.Name x px, .Name y py] kt pt] (.Tuple [a, b] k2 pt2) X.env = pure (some [x, y]) := by kernel_rfl)
    (hs : swapsWithSole [.Tuple [.Name x px, .Name y py] kt pt] (.Tuple [a, b] k2 pt2) pos.line X.env = pure false := by kernel_rfl) : PS X (.Assign [.Tuple [.Name x px, .Name y py] kt pt] (.Tuple [a, b] k2 pt2) pos) (tPar i j ta) := ps_par hc hN hi hj hij hx hy ha hw hs
theorem kpar3 {i j l : Nat} {x y z : Str} {a b c : Expr} {ta : TA} {px py pz pt : Pos} {kt k2 pt2} (hc : X.calm = true) (hN : X.N.Nodup) (hij : i ≠ j) (hil : i ≠ l) (hjl : j ≠ l) (ha : PA X [a, b, c] ta) (hi : X.N[i]? = some x := by kernel_rfl) (hj : X.N[j]? = some y := by kernel_rfl) (hl : X.N[l]? = some z := by kernel_rfl)
    (hx : X.env.scope.names.lookup x = some .local := by kernel_rfl) (hy : X.env.scope.names.lookup y = some .local := by kernel_rfl) (hz : X.env.scope.names.lookup z = some .local := by kernel_rfl)
    (hw : swappedStores [.Tuple [.Name x px, .Name y py, .Name z pz] kt pt] (.Tuple [a, b, c] k2 pt2) X.env = pure (some [x, y, z]) := by kernel_rfl)
    (hs : swapsWithSole [.Tuple [.Name x px, .Name y py, .Name z pz] kt pt] (.Tuple [a, b, c] k2 pt2) pos.line X.env = pure false := by kernel_rfl) : PS X (.Assign [.Tuple [.Name x px, .Name y py, .Name z pz] kt pt] (.Tuple [a, b, c] k2 pt2) pos) (tPar3 i j l ta) := ps_par3 hc hN hi hj hl hij hil hjl hx hy hz ha hw hs
theorem kval (h : PE X e te) (he : ∀ whole, isTrue e X.env whole = (do let v ← whole; standAt e.pos; holding [v] (truthy v)) := by exact fun _ => by kernel_rfl) : PT X e (tB te) := pt_val h he
end
end Fw

/-! The frame, 7: one of several things; the laws' source of draws. -/
namespace Fw
open PySem L2
open PyProof.Rows (envOfC)
/-! ### data that == can look at -/
def Shp (n : Nat) (d : PyData) : Prop := d.canLay0 = true ∧ d.depth ≤ n
theorem Shp.shaped {n : Nat} {d : PyData} (h : Shp n d) (hn : n ≤ 64) : SeqAt.shaped d = true := by
  unfold SeqAt.shaped
  rw [h.1, decide_eq_true (Nat.le_trans h.2 hn)]
  rfl
theorem shp_none : Shp 0 .none := ⟨rfl, Nat.le_refl _⟩
theorem shp_bool (b : Bool) : Shp 0 (.bool b) := ⟨rfl, Nat.le_refl _⟩
theorem shp_int (i : Int) : Shp 0 (.int i) := ⟨rfl, Nat.le_refl _⟩
theorem shp_str {x : Str} (h : (PyData.str x).canLay0 = true) : Shp 0 (.str x) := ⟨h, Nat.le_refl _⟩
theorem Shp.mono {n m : Nat} {d : PyData} (h : Shp n d) (l : n ≤ m) : Shp m d := ⟨h.1, Nat.le_trans h.2 l⟩
theorem shp_all {n : Nat} : ∀ {ds : List PyData}, (∀ d ∈ ds, Shp n d) → PyData.canLayAll0 ds = true ∧ PyData.depthAll ds ≤ n
  | [], _ => ⟨by simp [PyData.canLayAll0], by simp [PyData.depthAll]⟩
  | d :: ds, h => by
    have h1 := h d List.mem_cons_self
    have h2 := shp_all (ds := ds) fun x hx => h x (List.mem_cons_of_mem _ hx)
    refine ⟨?_, ?_⟩
    · simp only [PyData.canLayAll0, h1.1, h2.1, Bool.and_self]
    · simp only [PyData.depthAll]
      exact Nat.max_le.mpr ⟨h1.2, h2.2⟩
theorem shp_list {n : Nat} {ds : List PyData} (h : ∀ d ∈ ds, Shp n d) : Shp (n + 1) (.list ds) := by
  obtain ⟨h1, h2⟩ := shp_all h
  refine ⟨?_, ?_⟩
  · simp only [PyData.canLay0]; exact h1
  · simp only [PyData.depth]; omega
theorem shp_tuple {n : Nat} {ds : List PyData} (h : ∀ d ∈ ds, Shp n d) : Shp (n + 1) (.tuple ds) := by
  obtain ⟨h1, h2⟩ := shp_all h
  refine ⟨?_, ?_⟩
  · simp only [PyData.canLay0]; exact h1
  · simp only [PyData.depth]; omega
theorem shp_ints (ns : List Int) : Shp 1 (.list (ns.map .int)) := shp_list fun d hd => by
  obtain ⟨n, _, rfl⟩ := List.mem_map.mp hd
  exact shp_int n

section
variable {K : PySem.W.Frag} {W : Wd} {ms : List Addr} {B : Bs} {H H' : Hp} {ρ ρ' ρ1 : List Sl} {σ σ' : L2.St} {d : PyData} {ds : List PyData} {s s1 s2 : Sl} {v : V} {vs : List V} {l : Addr} {i : Nat}
  {ta tb tc te tx tl ti tv tm : TE} {tt t u : TT} {wi : TI} {g : TG} {D : Ends} {ts ts' tz : TS} {Φ Φ1 Φ2 : Sl → Prop}
/-! ### one of several things -/
def IsI (Ψ : Int → Prop) : Sl → Prop := fun s => ∃ n : Int, s = .dat (.int n) ∧ Ψ n
def IsD (Ψ : PyData → Prop) : Sl → Prop := fun s => ∃ d : PyData, s = .dat d ∧ Ψ d
theorem en_op {r : R2} (ha : En K W ta ρ Φ1) (hb : En K W tb ρ Φ2) (hr : ∀ s1 s2, Φ1 s1 → Φ2 s2 → ∃ s, Φ s ∧ Rs K r s1 s2 s) : En K W (tOp r ta tb) ρ Φ := fun ms B σ H h Q q =>
  ha ms B σ H h _ fun s1 x H1 φ1 h1 x1 o1 => hb ms B σ H1 h1 _ fun s2 y H2 φ2 h2 x2 o2 => by
    obtain ⟨s, φ, rs⟩ := hr s1 s2 φ1 φ2
    exact rs ms H2 x y h2.live (o1.mono (x2.cut h2.sub)) o2 Q fun v H3 s3 o3 => q s v H3 φ (h2.same s3) ((x1.trans x2).trans (.of_same s3)) o3
theorem en_I0 {Ψ1 Ψ2 Ψ : Int → Prop} {f : Int → Int → Int} (ha : En K W ta ρ (IsI Ψ1)) (hb : En K W tb ρ (IsI Ψ2)) (h : ∀ i j, Ψ1 i → Ψ2 j → Ψ (f i j)) : En K W (tOp (rI0 fun i j => .int (f i j)) ta tb) ρ (IsI Ψ) :=
  en_op ha hb fun s1 s2 ⟨i, e1, p1⟩ ⟨j, e2, p2⟩ => by
    subst e1 e2
    exact ⟨_, ⟨_, rfl, h i j p1 p2⟩, rs_I0 fun _ => .int _⟩
theorem en_I {Ψ1 Ψ2 Ψ : Int → Prop} {C : Int → Int → Prop} {f : Int → Int → Int} (ha : En K W ta ρ (IsI Ψ1)) (hb : En K W tb ρ (IsI Ψ2)) (hc : ∀ i j, Ψ1 i → Ψ2 j → C i j) (h : ∀ i j, Ψ1 i → Ψ2 j → Ψ (f i j)) : En K W (tOp (rI C fun i j => .int (f i j)) ta tb) ρ (IsI Ψ) :=
  en_op ha hb fun s1 s2 ⟨i, e1, p1⟩ ⟨j, e2, p2⟩ => by
    subst e1 e2
    exact ⟨_, ⟨_, rfl, h i j p1 p2⟩, rs_I (fun _ => .int _) (hc i j p1 p2)⟩
theorem en_int {i : Int} {Ψ : Int → Prop} (h : Ψ i) : En K W (tC (.int i)) ρ (IsI Ψ) := en_of_ev ev_int ⟨i, rfl, h⟩
theorem en_evi {n : Int} {Ψ : Int → Prop} (e : Evd K W te ρ (.int n)) (h : Ψ n) : En K W te ρ (IsI Ψ) := en_of_ev e ⟨n, rfl, h⟩
theorem en_toInt {Ψ : Int → Prop} (h : En K W te ρ (IsI Ψ)) : En K W (tCB rInt1 (tCons te tNil)) ρ (IsI Ψ) := fun ms B σ H a Q q => h ms B σ H a _ fun s v H1 φ h1 x1 o1 => by
  obtain ⟨n, rfl, p⟩ := φ
  cases o1
  exact .inl ⟨_, rfl, q (.dat (.int n)) _ H1 ⟨n, rfl, p⟩ h1 x1 (.int n)⟩
theorem en_eqI {Ψ1 : Int → Prop} {j : Int} (ha : En K W ta ρ (IsI Ψ1)) (hb : Evd K W tb ρ (.int j)) : EnT K W (tTest (tOp rEq ta tb)) ρ (fun _ => True) := fun ms B σ H a Q q => ha ms B σ H a _ fun s v H1 φ h1 x1 o1 => hb ms B σ H1 h1 _ fun w H2 h2 x2 o2 => by
  obtain ⟨n, rfl, p⟩ := φ
  cases o1
  cases o2
  exact ⟨rfl, _, rfl, q _ H2 trivial h2 (x1.trans x2)⟩
theorem ent_of {b : Bool} {Ψ : Bool → Prop} (h : EvT K W tt ρ b) (φ : Ψ b) : EnT K W tt ρ Ψ := fun ms B σ H a Q q => h ms B σ H a _ fun H1 h1 x1 => q b H1 φ h1 x1
theorem en_if {Ψ : Bool → Prop} (h : EnT K W tt ρ Ψ) (h1 : Ψ true → En K W ta ρ Φ) (h2 : Ψ false → En K W tb ρ Φ) : En K W (tIf tt ta tb) ρ Φ := fun ms B σ H g Q q => h ms B σ H g _ fun b H1 ψ g1 x1 => by
  cases b with
  | true => exact iteT (h1 ψ ms B σ H1 g1 Q fun s v H2 φ g2 x2 o2 => q s v H2 φ g2 (x1.trans x2) o2)
  | false => exact iteF (h2 ψ ms B σ H1 g1 Q fun s v H2 φ g2 x2 o2 => q s v H2 φ g2 (x1.trans x2) o2)
theorem ent_and {Ψ1 Ψ2 : Bool → Prop} (h1 : EnT K W t ρ Ψ1) (h2 : Ψ1 true → EnT K W u ρ Ψ2) : EnT K W (tAnd t u) ρ (fun b => (Ψ1 true ∧ Ψ2 b) ∨ (Ψ1 false ∧ b = false)) := fun ms B σ H g Q q => h1 ms B σ H g _ fun b H1 ψ g1 x1 => by
  cases b with
  | true => exact iteT (h2 ψ ms B σ H1 g1 Q fun b H2 φ g2 x2 => q b H2 (.inl ⟨ψ, φ⟩) g2 (x1.trans x2))
  | false => exact iteF (q false H1 (.inr ⟨ψ, rfl⟩) g1 x1)
/-- arguments, of several things -/
def EnD (K : PySem.W.Frag) (W : Wd) (ta : TA) (ρ : List Sl) (Ψ : List PyData → Prop) : Prop :=
  ∀ (ms : List Addr) (B : Bs) (σ : L2.St) (H : Hp), At K W ms B ρ σ H → ∀ Q : List V → Hp → Prop, (∀ ds vs H', Ψ ds → At K W ms B ρ σ H' → XW W.ws H H' → DpAll K (cut ms H') vs ds → Q vs H') → ta σ H Q
theorem end_of {ta : TA} {Ψ : List PyData → Prop} (h : EvD K W ta ρ ds) (ψ : Ψ ds) : EnD K W ta ρ Ψ := fun ms B σ H a Q q => h ms B σ H a Q fun vs H1 h1 x1 o1 => q ds vs H1 ψ h1 x1 o1
theorem end_nil : EnD K W tNil ρ (· = []) := end_of ed_nil rfl
theorem end_cons {tr : TA} {Ψ1 : PyData → Prop} {Ψ2 : List PyData → Prop} (h : En K W ta ρ (IsD Ψ1)) (hr : EnD K W tr ρ Ψ2) : EnD K W (tCons ta tr) ρ (fun ds => ∃ d es, ds = d :: es ∧ Ψ1 d ∧ Ψ2 es) := fun ms B σ H g Q q =>
  h ms B σ H g _ fun s x H1 φ g1 x1 o1 => hr ms B σ H1 g1 _ fun es xs H2 ψ g2 x2 o2 => by
    obtain ⟨d, rfl, φ⟩ := φ
    exact q (d :: es) _ H2 ⟨d, es, rfl, φ, ψ⟩ g2 (x1.trans x2) (.cons (o1.mono (x2.cut g2.sub)) o2)
theorem EnD.imp {ta : TA} {Ψ Ψ' : List PyData → Prop} (h : EnD K W ta ρ Ψ) (i : ∀ ds, Ψ ds → Ψ' ds) : EnD K W ta ρ Ψ' := fun ms B σ H a Q q => h ms B σ H a Q fun ds vs H1 ψ => q ds vs H1 (i ds ψ)
theorem en_tup {ta : TA} {Ψ : List PyData → Prop} (h : EnD K W ta ρ Ψ) (hl : ∀ ds, Ψ ds → ds.length ≤ 100000) : En K W (tTup ta) ρ (IsD fun d => ∃ ds, d = .tuple ds ∧ Ψ ds) := fun ms B σ H g Q q => h ms B σ H g _ fun ds vs H1 ψ g1 x1 o1 =>
  ⟨by rw [dpa_len o1]; exact le_line (hl ds ψ), fun p hp => q (.dat (.tuple ds)) _ _ ⟨_, rfl, ds, rfl, ψ⟩ (g1.same (same_put hp)) (x1.trans (.of_same (same_put hp))) (Sl.new_tup g1.live hp o1)⟩
theorem en_lst {ta : TA} {Ψ : List PyData → Prop} (h : EnD K W ta ρ Ψ) (hl : ∀ ds, Ψ ds → ds.length ≤ 100000) : En K W (tLst ta) ρ (IsD fun d => ∃ ds, d = .list ds ∧ Ψ ds) := fun ms B σ H g Q q => h ms B σ H g _ fun ds vs H1 ψ g1 x1 o1 =>
  ⟨by rw [dpa_len o1]; exact le_line (hl ds ψ), fun p hp => q (.dat (.list ds)) _ _ ⟨_, rfl, ds, rfl, ψ⟩ (g1.same (same_put hp)) (x1.trans (.of_same (same_put hp))) (Sl.new_lst g1.live hp o1)⟩
theorem en_tupL {Ψ : List PyData → Prop} (h : En K W te ρ (IsD fun d => ∃ ds, d = .list ds ∧ Ψ ds)) : En K W (tCB (rTupOf K) (tCons te tNil)) ρ (IsD fun d => ∃ ds, d = .tuple ds ∧ Ψ ds) := fun ms B σ H g Q q => h ms B σ H g _ fun s v H1 φ g1 x1 o1 => by
  obtain ⟨d, rfl, ds, rfl, ψ⟩ := φ
  cases o1 with
  | lst hs ha => exact ⟨_, _, rfl, .inl ⟨sql_mono cut_le hs, fun p hp => q (.dat (.tuple ds)) _ _ ⟨_, rfl, ds, rfl, ψ⟩ (g1.same (same_put hp)) (x1.trans (.of_same (same_put hp))) (Sl.new_tup g1.live hp ha)⟩⟩
/-! statements -/
theorem s_asgN {j : Nat} (h : At K W ms B ρ σ H) (e : En K W te ρ Φ) (k : ∀ s σ' H', Φ s → At K W ms B (ρ.set j s) σ' H' → D.nx σ' H') : tAsg te (gName j) D σ H := e ms B σ H h _ fun s v H1 φ h1 x1 o1 => k s _ H1 φ (h1.set o1 j)
theorem q_asgN {j : Nat} (h : At K W ms B ρ σ H) (e : En K W te ρ Φ) (k : ∀ s σ' H', Φ s → At K W ms B (ρ.set j s) σ' H' → tz D σ' H') : tSeq (tAsg te (gName j)) tz D σ H := s_asgN (D := { D with nx := tz D }) h e k
theorem s_ifN {Ψ : Bool → Prop} (h : At K W ms B ρ σ H) (e : EnT K W tt ρ Ψ) (k1 : Ψ true → ∀ H', At K W ms B ρ σ H' → ts D σ H') (k2 : Ψ false → ∀ H', At K W ms B ρ σ H' → ts' D σ H') : tIfS tt ts ts' D σ H := e ms B σ H h _ fun b H1 ψ h1 x1 => by
  cases b with
  | true => exact iteT (k1 ψ H1 h1)
  | false => exact iteF (k2 ψ H1 h1)
theorem s_retN (h : At K W ms B ρ σ H) (e : En K W te ρ Φ) (k : ∀ s v H', Φ s → At K W ms B [] [] H' → s.ok K (cut ms H') v → D.rt v H') : tRet te D σ H := e ms B σ H h _ fun s v H1 φ h1 x1 o1 => k s v H1 φ h1.nil o1
theorem q_parN {j k : Nat} {ta tb : TE} (h : At K W ms B ρ σ H) (e1 : En K W ta ρ Φ1) (e2 : En K W tb ρ Φ2) (kk : ∀ s1 s2 σ' H', Φ1 s1 → Φ2 s2 → At K W ms B ((ρ.set j s1).set k s2) σ' H' → tz D σ' H') : tSeq (tPar j k (tCons ta (tCons tb tNil))) tz D σ H :=
  e1 ms B σ H h _ fun s1 v1 H1 φ1 h1 x1 o1 => e2 ms B σ H1 h1 _ fun s2 v2 H2 φ2 h2 x2 o2 => ⟨v1, v2, rfl, kk s1 s2 _ H2 φ1 φ2 ((h2.set (o1.mono (x2.cut h2.sub)) j).set o2 k)⟩
/-- the for, with something of each turn that is told of no one -/
theorem s_forE {α : Type} {R S : Nat → α → List Sl} {X : Nat → α → Hp → Prop} (p0 : α) (h : At K W ms B ρ σ H) (sr : Src K W wi ρ ds) (l0 : Le (R 0 p0) ρ) (x0 : ∀ H1, At K W ms B ρ σ H1 → XW W.ws H H1 → X 0 p0 H1)
    (tg : ∀ i p d, ds[i]? = some d → ∃ js, Tg K W g js d (R i p) (S i p))
    (hs : ∀ Hb i p d σ' H', ds[i]? = some d → At K W ms ⟨B.h0, Hb⟩ (S i p) σ' H' → X i p H' → ts { D with nx := fun σ H => ∃ p', At K W ms ⟨B.h0, Hb⟩ (R (i + 1) p') σ H ∧ X (i + 1) p' H, ct := fun σ H => ∃ p', At K W ms ⟨B.h0, Hb⟩ (R (i + 1) p') σ H ∧ X (i + 1) p' H, bk := D.nx } σ' H')
    (hd : ∀ p σ' H', At K W ms B (R ds.length p) σ' H' → X ds.length p H' → D.nx σ' H') (xs : ∀ i p H H', Same H H' → Live ms H → X i p H → X i p H') : tFor wi g ts D σ H := sr ms B σ H h _ fun J H1 h1 x1 stm => by
  obtain ⟨G, Y, wk, st⟩ := stm
  refine for_it wk (fun i σ H => ∃ p, At K W ms ⟨B.h0, H1⟩ (R i p) σ H ∧ X i p H) ⟨p0, h1.re.le l0, x0 H1 h1 x1⟩ (fun i σ H _ ⟨p, a, _⟩ => (st ms H a.st).1) (fun i x σ H H' hi ⟨p, a, xx⟩ y => ?_) fun σ H ⟨p, a, xx⟩ => hd p σ H (h1.un a) xx
  obtain ⟨s, hdt⟩ := (st ms H a.st).2 i x H' a.live y
  have hx : ds[i]? = some ds[i] := List.getElem?_eq_getElem hi
  obtain ⟨js, tj⟩ := tg i p _ hx
  exact tj ms _ σ H' x (a.same s) (hdt _ hx) _ fun σ2 h2 _ => hs H1 i p _ σ2 H' hx h2 (xs i p H H' s a.live xx)
theorem q_forE {α : Type} {R S : Nat → α → List Sl} {X : Nat → α → Hp → Prop} (p0 : α) (h : At K W ms B ρ σ H) (sr : Src K W wi ρ ds) (l0 : Le (R 0 p0) ρ) (x0 : ∀ H1, At K W ms B ρ σ H1 → XW W.ws H H1 → X 0 p0 H1)
    (tg : ∀ i p d, ds[i]? = some d → ∃ js, Tg K W g js d (R i p) (S i p))
    (hs : ∀ Hb i p d σ' H', ds[i]? = some d → At K W ms ⟨B.h0, Hb⟩ (S i p) σ' H' → X i p H' → ts { D with nx := fun σ H => ∃ p', At K W ms ⟨B.h0, Hb⟩ (R (i + 1) p') σ H ∧ X (i + 1) p' H, ct := fun σ H => ∃ p', At K W ms ⟨B.h0, Hb⟩ (R (i + 1) p') σ H ∧ X (i + 1) p' H, bk := tz D } σ' H')
    (hd : ∀ p σ' H', At K W ms B (R ds.length p) σ' H' → X ds.length p H' → tz D σ' H') (xs : ∀ i p H H', Same H H' → Live ms H → X i p H → X i p H') : tSeq (tFor wi g ts) tz D σ H :=
  s_forE (D := { D with nx := tz D }) p0 h sr l0 x0 tg hs hd xs

/-! ### the source of draws -/
structure DrawA where
  d : Addr
  l : Addr
  c : Addr
  cells : List Int
  ne : d ≠ l
def drawKv (A : DrawA) (r t : Int) : List (Key × V) := [(.inr "large", .ref A.l), (.inr "rest", .int r), (.inr "cells", .ref A.c), (.inr "turn", .int t)]
structure DrawS where
  large : List Int
  rest : Int
  turn : Int
def drawAt (A : DrawA) (S : DrawS) (H : Hp) : Prop := H A.d = some (.dK (drawKv A S.rest S.turn)) ∧ H A.l = some (.lst (S.large.map .int))
def DW (K : PySem.W.Frag) (A : DrawA) : Wd where
  ws := [A.d, A.l]
  P := fun H => ∃ S, drawAt A S H
  sup := fun H H' k _ ⟨S, h1, h2⟩ => ⟨S, k _ (by simp) _ h1, k _ (by simp) _ h2⟩
  C := fun H => Dp K H (.ref A.c) (.list (A.cells.map .int))
  mono := fun H H' s h => dp_mono s _ _ h
theorem str_lr : ¬ (("large" : Str) = "rest") := by decide +kernel
theorem str_lc : ¬ (("large" : Str) = "cells") := by decide +kernel
theorem str_lt : ¬ (("large" : Str) = "turn") := by decide +kernel
theorem str_rc : ¬ (("rest" : Str) = "cells") := by decide +kernel
theorem str_rt : ¬ (("rest" : Str) = "turn") := by decide +kernel
theorem str_ct : ¬ (("cells" : Str) = "turn") := by decide +kernel
theorem get_large (A : DrawA) (r t : Int) : valV (drawKv A r t) (.inr "large") = some (.ref A.l) := by simp [valV, drawKv]
theorem get_rest (A : DrawA) (r t : Int) : valV (drawKv A r t) (.inr "rest") = some (.int r) := by simp [valV, drawKv, str_lr, List.find?_cons]
theorem get_cells (A : DrawA) (r t : Int) : valV (drawKv A r t) (.inr "cells") = some (.ref A.c) := by simp [valV, drawKv, str_lc, str_rc, List.find?_cons]
theorem get_turn (A : DrawA) (r t : Int) : valV (drawKv A r t) (.inr "turn") = some (.int t) := by simp [valV, drawKv, str_lt, str_rt, str_ct, List.find?_cons]
theorem put_rest (A : DrawA) (r t z : Int) : putK (drawKv A r t) (.inr "rest") (.int z) = drawKv A z t := by simp [putK, drawKv, str_lr, Ne.symm str_rc, Ne.symm str_rt]
theorem put_turn (A : DrawA) (r t z : Int) : putK (drawKv A r t) (.inr "turn") (.int z) = drawKv A r z := by simp [putK, drawKv, str_lt, str_rt, str_ct]
variable {A : DrawA}
theorem At.draw (h : At K (DW K A) ms B ρ σ H) {a : Addr} {o : HO} (ha : a ∈ [A.d, A.l]) (p : ∃ S, drawAt A S (upd H a o)) : At K (DW K A) ms B ρ σ (upd H a o) := by
  have hm : a ∈ ms := h.sub a ha
  refine ⟨h.sub, h.live.upd, h.env.mono (cut_put (.inl hm)), p, fun b u n e => ?_, h.st.trans (cut_put (.inl hm)), dp_mono (cut_put (.inl hm)) _ _ h.c⟩
  rw [upd_ne (fun q => by subst q; exact n ha)]
  exact h.xw b u n e
theorem xw_draw {a : Addr} {o : HO} (ha : a ∈ [A.d, A.l]) : XW (DW K A).ws H (upd H a o) := fun b u n e => by
  rw [upd_ne (fun q => by subst q; exact n ha)]
  exact e
theorem en_rest (h : ρ[i]? = some (.raw (.ref A.d))) : En K (DW K A) (tDGet (tVar i) (tC (.str "rest"))) ρ (IsI fun _ => True) := fun ms B σ H a Q q => by
  obtain ⟨v, e, o⟩ := a.env.get h (by intro q; cases q)
  obtain rfl : v = .ref A.d := o
  obtain ⟨S, e1, e2⟩ := a.p
  have g := DGet.k (k := Sum.inr "rest") e1
  rw [get_rest] at g
  exact ⟨_, e, A.d, .int S.rest, rfl, g, q (.dat (.int S.rest)) _ H ⟨_, rfl, trivial⟩ a (.refl H) (.int _)⟩
theorem en_turn (h : ρ[i]? = some (.raw (.ref A.d))) : En K (DW K A) (tDGet (tVar i) (tC (.str "turn"))) ρ (IsI fun _ => True) := fun ms B σ H a Q q => by
  obtain ⟨v, e, o⟩ := a.env.get h (by intro q; cases q)
  obtain rfl : v = .ref A.d := o
  obtain ⟨S, e1, e2⟩ := a.p
  have g := DGet.k (k := Sum.inr "turn") e1
  rw [get_turn] at g
  exact ⟨_, e, A.d, .int S.turn, rfl, g, q (.dat (.int S.turn)) _ H ⟨_, rfl, trivial⟩ a (.refl H) (.int _)⟩
theorem ev_cells (h : ρ[i]? = some (.raw (.ref A.d))) : Evd K (DW K A) (tDGet (tVar i) (tC (.str "cells"))) ρ (.list (A.cells.map .int)) := fun ms B σ H a Q q => by
  obtain ⟨v, e, o⟩ := a.env.get h (by intro q; cases q)
  obtain rfl : v = .ref A.d := o
  obtain ⟨S, e1, e2⟩ := a.p
  have g := DGet.k (k := Sum.inr "cells") e1
  rw [get_cells] at g
  exact ⟨_, e, A.d, .ref A.c, rfl, g, q _ H a (.refl H) a.c⟩
theorem q_putRest (a : At K (DW K A) ms B ρ σ H) (h : ρ[i]? = some (.raw (.ref A.d))) (e : En K (DW K A) tv ρ (IsI fun _ => True)) (k : ∀ H', At K (DW K A) ms B ρ σ H' → D.nx σ H') : sDPut (tVar i) (tC (.str "rest")) tv D σ H := e ms B σ H a _ fun s v H1 φ h1 x1 o1 => by
  obtain ⟨n, rfl, _⟩ := φ
  cases o1
  obtain ⟨v, ev, o⟩ := h1.env.get h (by intro q; cases q)
  obtain rfl : v = .ref A.d := o
  obtain ⟨S, e1, e2⟩ := h1.p
  have g := DPut.k (k := Sum.inr "rest") (v := .int n) e1 (by show 4 < sizeLine; decide)
  rw [put_rest] at g
  exact ⟨_, ev, A.d, _, rfl, g, k _ (h1.draw (by simp) ⟨⟨S.large, n, S.turn⟩, upd_same, by rw [upd_ne (Ne.symm A.ne)]; exact e2⟩)⟩
theorem q_putTurn (a : At K (DW K A) ms B ρ σ H) (h : ρ[i]? = some (.raw (.ref A.d))) (e : En K (DW K A) tv ρ (IsI fun _ => True)) (k : ∀ H', At K (DW K A) ms B ρ σ H' → D.nx σ H') : sDPut (tVar i) (tC (.str "turn")) tv D σ H := e ms B σ H a _ fun s v H1 φ h1 x1 o1 => by
  obtain ⟨n, rfl, _⟩ := φ
  cases o1
  obtain ⟨v, ev, o⟩ := h1.env.get h (by intro q; cases q)
  obtain rfl : v = .ref A.d := o
  obtain ⟨S, e1, e2⟩ := h1.p
  have g := DPut.k (k := Sum.inr "turn") (v := .int n) e1 (by show 4 < sizeLine; decide)
  rw [put_turn] at g
  exact ⟨_, ev, A.d, _, rfl, g, k _ (h1.draw (by simp) ⟨⟨S.large, S.rest, n⟩, upd_same, by rw [upd_ne (Ne.symm A.ne)]; exact e2⟩)⟩
/-- draw["large"].pop(0) if draw["large"] != [] else .. -/
theorem en_next (h : ρ[i]? = some (.raw (.ref A.d))) (hm : En K (DW K A) tm ρ (IsI fun _ => True)) :
    En K (DW K A) (tIf (tTest (tOp (rNeD K) (tDGet (tVar i) (tC (.str "large"))) (tLst tNil))) (tBM K "list" rPopAt (tDGet (tVar i) (tC (.str "large"))) (tCons (tC (.int 0)) tNil)) tm) ρ (IsI fun _ => True) := fun ms B σ H a Q q => by
  obtain ⟨v, e, o⟩ := a.env.get h (by intro q; cases q)
  obtain rfl : v = .ref A.d := o
  obtain ⟨S, e1, e2⟩ := a.p
  have g := DGet.k (k := Sum.inr "large") e1
  rw [get_large] at g
  refine ⟨_, e, A.d, .ref A.l, rfl, g, Nat.zero_le _, fun p hp => ?_⟩
  have e2' := same_put (o := .lst []) hp _ _ e2
  refine ⟨.list (S.large.map .int), .list [], .lst (SqL.of e2') (dpa_of_ints _ _ _), .lst (SqL.of upd_same) .nil, (shp_ints _).shaped (by decide), (shp_list (n := 0) (by simp)).shaped (by decide), _, rfl, ?_⟩
  have a1 := a.same (same_put (o := .lst []) hp)
  have x1 : XW (DW K A).ws H (upd H p (.lst [])) := .of_same (same_put hp)
  obtain ⟨lg, r, tn⟩ := S
  cases lg with
  | nil => exact iteF (hm ms B σ _ a1 Q fun s v H2 φ h2 x2 o2 => q s v H2 φ h2 (x1.trans x2) o2)
  | cons n lg =>
    refine iteT ?_
    obtain ⟨S1, f1, f2⟩ := a1.p
    have e1' := same_put (o := .lst []) hp _ _ e1
    have g1 := DGet.k (k := Sum.inr "large") e1'
    rw [get_large] at g1
    refine ⟨_, e, A.d, .ref A.l, rfl, g1, .inl ⟨rfl, _, .inl (.inl e2')⟩, A.l, _, 0, 0, .int n, rfl, rfl, e2', by decide, by decide, ?_, rfl, ?_⟩
    · show seqIndex? 0 _ = some 0
      unfold seqIndex?
      simp
    · refine q (.dat (.int n)) _ _ ⟨n, rfl, trivial⟩ (a1.draw (by simp) ⟨⟨lg, r, tn⟩, ?_, ?_⟩) (x1.trans (xw_draw (by simp))) (.int n)
      · rw [upd_ne A.ne]; exact e1'
      · rw [upd_same]; rfl
/-! defs that draw -/
def spN (K : PySem.W.Frag) (Pre : List PyData → Prop) (Φ : List PyData → PyData → Prop) : Sp := fun vs H Q _ => ∃ (A : DrawA) (ms : List Addr) (ds : List PyData) (ws : List V), vs = .ref A.d :: ws ∧ (∀ a ∈ (DW K A).ws, a ∈ ms) ∧ Live ms H ∧ (DW K A).P H ∧ (DW K A).C (cut ms H) ∧ DpAll K (cut ms H) ws ds ∧ Pre ds ∧
  ∀ d v H', Φ ds d → XW (DW K A).ws H H' → Live ms H' → (DW K A).P H' → Dp K (cut ms H') v d → Q v H'
theorem en_callN {Pre : List PyData → Prop} {Φ : List PyData → PyData → Prop} {Ψ : List PyData → Prop} {ta : TA} {E : XK} (h : ρ[i]? = some (.raw (.ref A.d))) (ha : EnD K (DW K A) ta ρ Ψ) (hp : ∀ ds, Ψ ds → Pre ds) : En K (DW K A) (tCall (spN K Pre Φ) [] E (tCons (tVar i) ta)) ρ (IsD fun d => ∃ ds, Ψ ds ∧ Φ ds d) := fun ms B σ H a Q q => by
  obtain ⟨v, e, o⟩ := a.env.get h (by intro q; cases q)
  obtain rfl : v = .ref A.d := o
  refine ⟨_, e, ha ms B σ H a _ fun ds ws H1 ψ h1 x1 o1 => ?_⟩
  show spN K Pre Φ ((.ref A.d :: ws) ++ []) H1 Q E
  rw [List.append_nil]
  exact ⟨A, ms, ds, ws, rfl, h1.sub, h1.live, h1.p, h1.c, o1, hp ds ψ, fun d v H2 φ x2 l2 p2 o2 => q (.dat d) v H2 ⟨d, rfl, ds, ψ, φ⟩ (h1.go x2 l2 p2) (x1.trans x2) o2⟩
def RunsN (K : PySem.W.Frag) (t : TS) (ρ : DrawA → List Sl) (Φ : PyData → Prop) : Prop :=
  ∀ (A : DrawA) (ms : List Addr) (σ : L2.St) (H : Hp) (Q : VK), At K (DW K A) ms ⟨H, H⟩ (ρ A) σ H → (∀ d v H', Φ d → At K (DW K A) ms ⟨H, H⟩ [] [] H' → Dp K (cut ms H') v d → Q v H') → t { nx := fun _ H' => Q .non H', rt := Q } σ H
theorem env_argsN {ds : List PyData} {ws : List V} {n : Nat} {v : V} (h : DpAll K H ws ds) : EnvOk K H (.raw v :: (ds.map .dat ++ List.replicate n .emp)) (some v :: (ws.map some ++ List.replicate n none)) :=
  .cons (show SlO K H (.raw v) (some v) from rfl) (EnvOk.app (env_args h) (EnvOk.emp _))
section
variable {P : Program} {w : World} {mg : Str → Option Value} {base : Heap}
theorem drawOk {x qual : Str} {st : Stmt} {f : Addr} {fd : FuncData} {N ps : List Str} {k : Nat} {Pre : List PyData → Prop} {Φ : List PyData → PyData → Prop} (F : Fun K x qual st f fd) (S : FnScope N ps (defScope st)) (hG : ∀ ds, Pre ds → ds.length + 1 = ps.length)
    (hb : ∀ (cdv : Value) (A : Around) (outer : List Env) (s : Shared) (H : Hp) (E : XK), Room k (A.deeper (envOfC qual (defScope st) s.heap.objs.size f cdv)) →
      ∃ t, PSs (cxOf CX0 P w K mg base N qual (defScope st) f cdv A outer s H E).nox (defBody st) t ∧ ∀ ds, Pre ds → RunsN K t (fun A => .raw (.ref A.d) :: (ds.map .dat ++ List.replicate (N.length - (ds.length + 1)) .emp)) (Φ ds)) : FnOk P w K mg base CX0 (k + 1) f fd ps (spN K Pre Φ) := by
  refine F.ok S (fun vs H Q E h => ?_) fun cdv A outer s H vs Q E hr h => ?_
  · obtain ⟨A, ms, ds, ws, rfl, _, _, _, _, o, p, _⟩ := h
    rw [List.length_cons, dpa_len o, hG ds p]
  · obtain ⟨A2, ms, ds, ws, rfl, sub, l, p, c, o, pre, q⟩ := h
    obtain ⟨t, ht, hr⟩ := hb cdv A outer s H E hr
    refine ⟨t, ht, hr ds pre A2 ms _ H Q ⟨sub, l, ?_, p, .refl H, Same.refl _, c⟩ fun d v H' φ a od => q d v H' φ a.xw a.live a.p od⟩
    have e : L2.start N (.ref A2.d :: ws) = some (.ref A2.d) :: (ws.map some ++ List.replicate (N.length - (ds.length + 1)) none) := by
      unfold L2.start
      rw [List.map_cons, List.length_cons, dpa_len o]
      rfl
    rw [e]
    exact env_argsN o
end
end
end Fw

/-! The frame, 8: lists of one's own that are read while they grow; walks of several lengths. -/
namespace Fw
open PySem L2
/-! ### data without lists -/
mutual
def noList : PyData → Bool
  | .list _ => false
  | .tuple ds => noLists ds
  | .dict _ => false
  | _ => true
def noLists : List PyData → Bool
  | [] => true
  | d :: ds => noList d && noLists ds
end
theorem noLists_of : ∀ {ds : List PyData}, (∀ d ∈ ds, noList d = true) → noLists ds = true
  | [], _ => by simp [noLists]
  | d :: ds, h => by
    simp only [noLists, h d List.mem_cons_self, noLists_of fun x hx => h x (List.mem_cons_of_mem _ hx), Bool.and_self]
section
variable {K : PySem.W.Frag} {ms : List Addr} {H : Hp} {l : Addr} {xs : List V}
theorem sqt_nolist {a : Addr} {ys : List V} (hl : H l = some (.lst xs)) (h : SqT K (cut ms H) a ys) : SqT K (cut (l :: ms) H) a ys := by
  have key : ∀ u, (cut ms H) a = some u → (∀ zs, u ≠ .lst zs) → (cut (l :: ms) H) a = some u := fun u e n => by
    have nm : a ∉ ms := fun z => by rw [cut_in z] at e; cases e
    rw [cut_out nm] at e
    have na : a ≠ l := fun z => by
      subst z
      rw [hl] at e
      cases e
      exact n xs rfl
    rw [cut_out (by simp [na, nm])]
    exact e
  rcases h with (h | ⟨o, h⟩) | h
  · exact .inl (.inl (key _ h fun zs q => by cases q))
  · exact .inl (.inr ⟨o, key _ h fun zs q => by cases q⟩)
  · exact .inr h
mutual
theorem dp_nolist (hl : H l = some (.lst xs)) : ∀ (d : PyData) (v : V), noList d = true → Dp K (cut ms H) v d → Dp K (cut (l :: ms) H) v d
  | .none, _, _, h => by cases h; exact .non
  | .bool b, _, _, h => by cases h; exact .bl b
  | .int i, _, _, h => by cases h; exact .int i
  | .str x, _, _, h => by cases h; exact .str x
  | .list ds, _, n, _ => by simp [noList] at n
  | .tuple ds, _, n, h => by
    cases h with
    | tup hs ha => exact .tup (sqt_nolist hl hs) (dpa_nolist hl ds _ (by simpa [noList] using n) ha)
  | .dict _, _, _, h => by cases h
theorem dpa_nolist (hl : H l = some (.lst xs)) : ∀ (ds : List PyData) (vs : List V), noLists ds = true → DpAll K (cut ms H) vs ds → DpAll K (cut (l :: ms) H) vs ds
  | [], _, _, h => by cases h; exact .nil
  | d :: ds, _, n, h => by
    simp only [noLists, Bool.and_eq_true] at n
    cases h with
    | cons h1 h2 => exact .cons (dp_nolist hl d _ n.1 h1) (dpa_nolist hl ds _ n.2 h2)
end
end
section
variable {K : PySem.W.Frag} {W : Wd} {ms : List Addr} {B : Bs} {H H' : Hp} {ρ ρ' ρ1 : List Sl} {σ σ' : L2.St} {d : PyData} {ds : List PyData} {s s1 s2 : Sl} {v : V} {vs : List V} {l : Addr} {i : Nat}
  {ta tb tc te tx tl ti tv tm : TE} {tt t u : TT} {wi : TI} {g : TG} {D : Ends} {ts ts' tz : TS} {Φ Φ1 Φ2 : Sl → Prop}
def Bs.off (B : Bs) (l : Addr) : Bs := ⟨B.h0, fun a => if a = l then none else B.hb a⟩
theorem cut_off : cut (l :: ms) (B.off l).hb = cut (l :: ms) B.hb := by
  funext a
  by_cases q : a ∈ l :: ms
  · rw [cut_in q, cut_in q]
  · rw [cut_out q, cut_out q]
    have n : a ≠ l := fun z => q (by rw [z]; exact List.mem_cons_self)
    show (if a = l then none else B.hb a) = _
    rw [if_neg n]
theorem At.off (h : At K W (l :: ms) B ρ σ H) : At K W (l :: ms) (B.off l) ρ σ H := ⟨h.sub, h.live, h.env, h.p, h.xw, by rw [cut_off]; exact h.st, h.c⟩
/-- l.append(e), e may read l -/
theorem s_appL {Ψ : PyData → Prop} (h : At K W (l :: ms) B ρ σ H) (o : Own K W (l :: ms) B l ds H) (hm : l ∉ ms) (hr : ρ[i]? = some (.raw (.ref l))) (hz : ds.length < 100000)
    (e : En K W te (ρ.set i (.dat (.list ds))) (IsD fun d => noList d = true ∧ Ψ d)) (k : ∀ d H', Ψ d → At K W (l :: ms) B ρ σ H' → Own K W (l :: ms) B l (ds ++ [d]) H' → D.nx σ H') : tDrop (tBM K "list" rAppend (tVar i) (tCons te tNil)) D σ H := by
  obtain ⟨w, ew, ow⟩ := h.env.get hr (by intro q; cases q)
  obtain rfl : w = .ref l := ow
  obtain ⟨vs, el, dd⟩ := o.val
  refine ⟨_, ew, .inl ⟨rfl, _, .inl (.inl el)⟩, e ms (B.off l) σ H (h.off.lend ⟨o.mem, o.nws, o.h0, o.val⟩ hm (by show (if l = l then none else B.hb l) = none; rw [if_pos rfl]) hr) _ fun s v H1 φ h1 x1 o1 => ?_⟩
  obtain ⟨d, rfl, nl, ψ⟩ := φ
  have e1 := x1 l _ o.nws el
  refine ⟨l, vs, v, rfl, rfl, e1, Nat.lt_of_lt_of_le (by rw [dpa_len dd]; exact hz) (show 100000 ≤ sizeLine by decide), ?_⟩
  have g1 : At K W (l :: ms) B ρ σ H1 := h.go x1 (fun a z => (List.mem_cons.mp z).elim (fun q => by rw [q]; exact ⟨_, e1⟩) (h1.live a)) h1.p
  have d1 := dpa_mono (x1.cut h.sub) _ _ dd
  exact k d _ ψ (g1.write o.mem o.nws o.h0) ⟨o.mem, o.nws, o.h0, vs ++ [v], upd_same, dpa_mono (cut_put (.inl o.mem)) _ _ (dpa_snoc d1 (dp_nolist e1 d v nl o1))⟩
/-- a, b = e, a new list -/
theorem q_parNF {j k : Nat} {Ψ : List PyData → Prop} (h : At K W ms B ρ σ H) (e1 : En K W ta ρ (fun s => Φ1 s ∧ ∃ n, s = .dat (.int n))) (e2 : EvF K W tb ρ Ψ)
    (kk : ∀ s1 l ds σ' H', Φ1 s1 → Ψ ds → At K W (l :: ms) B ((ρ.set j s1).set k (.raw (.ref l))) σ' H' → Own K W (l :: ms) B l ds H' → l ∉ ms → B.hb l = none → tz D σ' H') : tSeq (tPar j k (tCons ta (tCons tb tNil))) tz D σ H :=
  e1 ms B σ H h _ fun s1 v1 H1 φ1 h1 x1 o1 => e2 ms B σ H1 h1 _ fun ds l vs H2 ψ h2 x2 hl e2 o2 => by
    obtain ⟨φ1, n, rfl⟩ := φ1
    cases o1
    obtain ⟨l0, lm, lw⟩ := h1.fresh hl
    exact ⟨_, _, rfl, kk _ l ds _ _ φ1 ψ (((h1.adopt x2 h2 hl e2).set (s := .dat (.int n)) (.int n) j).set (s := .raw (.ref l)) rfl k) ⟨List.mem_cons_self, lw, l0, vs, e2, o2⟩ lm (h1.freshB hl)⟩
/-! walks of one of several lists -/
def SrcN (K : PySem.W.Frag) (W : Wd) (wi : TI) (ρ : List Sl) (Ψ : List PyData → Prop) : Prop :=
  ∀ (ms : List Addr) (B : Bs) (σ : L2.St) (H : Hp), At K W ms B ρ σ H → ∀ R : It → Hp → Prop, (∀ ds J H', Ψ ds → At K W ms B ρ σ H' → XW W.ws H H' → Stream K J ms H' ds → R J H') → wi σ H R
theorem srcN_of {Ψ : List PyData → Prop} (h : Src K W wi ρ ds) (ψ : Ψ ds) : SrcN K W wi ρ Ψ := fun ms B σ H a R q => h ms B σ H a R fun J H' => q ds J H' ψ
theorem srcN_list {Ψ : List PyData → Prop} (h : En K W tl ρ (IsD fun d => ∃ ds, d = .list ds ∧ Ψ ds)) : SrcN K W (iList K tl) ρ Ψ := fun ms B σ H a R q => h ms B σ H a _ fun s v H1 φ h1 x1 o1 => by
  obtain ⟨d, rfl, ds, rfl, ψ⟩ := φ
  cases o1 with
  | @lst p vs _ hs ha =>
    refine ⟨p, rfl, ⟨vs, sql_mono cut_le hs⟩, q ds _ H1 ψ h1 x1 ⟨fun H => SqL K H p vs, YAt vs, ?_, fun ms' H2 s => ⟨sql_mono (s.trans cut_le) hs, fun i x H3 l y => ?_⟩⟩⟩
    · rw [← dpa_len ha]; exact walk_list
    · obtain ⟨rfl, e⟩ := y
      refine ⟨Same.refl _, fun d hd => ?_⟩
      obtain ⟨d', e', o⟩ := dpa_get ha e
      rw [hd] at e'
      cases e'
      exact dp_mono s _ _ o
def rangeD (n : Int) : List PyData := (List.range n.toNat).map fun i => PyData.int (i : Nat)
theorem srcN_range {Ψ : Int → Prop} (h : En K W te ρ (IsI Ψ)) (hn : ∀ n, Ψ n → -1000000000 ≤ n ∧ n ≤ 1000000000) : SrcN K W (iRng1 (tCons te tNil)) ρ (fun ds => ∃ n, Ψ n ∧ ds = rangeD n) := fun ms B σ H a R q => h ms B σ H a _ fun s v H1 φ h1 x1 o1 => by
  obtain ⟨n, rfl, ψ⟩ := φ
  cases o1
  have hb := hn n ψ
  refine ⟨n, rfl, by omega, by omega, q (rangeD n) _ H1 ⟨n, ψ, rfl⟩ h1 x1 ⟨fun _ => True, YFn fun i => .int (0 + i), ?_, fun ms' H2 s => ⟨trivial, fun i x H3 l y => ?_⟩⟩⟩
  · unfold rangeD; rw [List.length_map, List.length_range]; exact walk_range
  · obtain ⟨rfl, rfl⟩ := y
    refine ⟨Same.refl _, fun d hd => ?_⟩
    unfold rangeD at hd
    rw [List.getElem?_map] at hd
    cases e : (List.range n.toNat)[i]? with
    | none => rw [e] at hd; cases hd
    | some j =>
      rw [e] at hd
      obtain ⟨hl, e'⟩ := List.getElem?_eq_some_iff.mp e
      rw [List.getElem_range] at e'
      subst e'
      cases hd
      show Dp K _ (V.int (0 + _)) _
      rw [Int.zero_add]
      exact .int _
theorem rangeD_get {n : Int} {i : Nat} {d : PyData} (h : (rangeD n)[i]? = some d) : d = .int (i : Nat) ∧ (i : Int) < n := by
  unfold rangeD at h
  rw [List.getElem?_map] at h
  cases e : (List.range n.toNat)[i]? with
  | none => rw [e] at h; cases h
  | some j =>
    rw [e] at h
    obtain ⟨hl, e'⟩ := List.getElem?_eq_some_iff.mp e
    rw [List.getElem_range] at e'
    subst e'
    cases h
    rw [List.length_range] at hl
    exact ⟨rfl, by omega⟩
theorem rangeD_len (n : Int) : (rangeD n).length = n.toNat := by unfold rangeD; rw [List.length_map, List.length_range]
theorem s_forN {α : Type} {Ψ : List PyData → Prop} {R S : Nat → α → List Sl} {X : Nat → α → Hp → Prop} (p0 : α) (h : At K W ms B ρ σ H) (sr : SrcN K W wi ρ Ψ) (l0 : Le (R 0 p0) ρ) (x0 : ∀ H1, At K W ms B ρ σ H1 → XW W.ws H H1 → X 0 p0 H1)
    (tg : ∀ ds, Ψ ds → ∀ i p d, ds[i]? = some d → ∃ js, Tg K W g js d (R i p) (S i p))
    (hs : ∀ ds, Ψ ds → ∀ Hb i p d σ' H', ds[i]? = some d → At K W ms ⟨B.h0, Hb⟩ (S i p) σ' H' → X i p H' → ts { D with nx := fun σ H => ∃ p', At K W ms ⟨B.h0, Hb⟩ (R (i + 1) p') σ H ∧ X (i + 1) p' H, ct := fun σ H => ∃ p', At K W ms ⟨B.h0, Hb⟩ (R (i + 1) p') σ H ∧ X (i + 1) p' H, bk := D.nx } σ' H')
    (hd : ∀ ds, Ψ ds → ∀ p σ' H', At K W ms B (R ds.length p) σ' H' → X ds.length p H' → D.nx σ' H') (xs : ∀ i p H H', Same H H' → Live ms H → X i p H → X i p H') : tFor wi g ts D σ H := sr ms B σ H h _ fun ds J H1 ψ h1 x1 stm => by
  obtain ⟨G, Y, wk, st⟩ := stm
  refine for_it wk (fun i σ H => ∃ p, At K W ms ⟨B.h0, H1⟩ (R i p) σ H ∧ X i p H) ⟨p0, h1.re.le l0, x0 H1 h1 x1⟩ (fun i σ H _ ⟨p, a, _⟩ => (st ms H a.st).1) (fun i x σ H H' hi ⟨p, a, xx⟩ y => ?_) fun σ H ⟨p, a, xx⟩ => hd ds ψ p σ H (h1.un a) xx
  obtain ⟨s, hdt⟩ := (st ms H a.st).2 i x H' a.live y
  have hx : ds[i]? = some ds[i] := List.getElem?_eq_getElem hi
  obtain ⟨js, tj⟩ := tg ds ψ i p _ hx
  exact tj ms _ σ H' x (a.same s) (hdt _ hx) _ fun σ2 h2 _ => hs ds ψ H1 i p _ σ2 H' hx h2 (xs i p H H' s a.live xx)
theorem end_all0 {P : PyData → Prop} : EnD K W tNil ρ (fun ds => ds.length = 0 ∧ ∀ d ∈ ds, P d) := end_of ed_nil ⟨rfl, by simp⟩
theorem end_all1 {P : PyData → Prop} {tr : TA} {n : Nat} (h : En K W ta ρ (IsD P)) (hr : EnD K W tr ρ (fun ds => ds.length = n ∧ ∀ d ∈ ds, P d)) : EnD K W (tCons ta tr) ρ (fun ds => ds.length = n + 1 ∧ ∀ d ∈ ds, P d) :=
  (end_cons h hr).imp fun ds ⟨d, es, e, p, l, q⟩ => by
    subst e
    refine ⟨by rw [List.length_cons, l], fun x hx => ?_⟩
    rcases List.mem_cons.mp hx with e | e
    · rw [e]; exact p
    · exact q x e
theorem end_one {P : PyData → Prop} (h : En K W ta ρ (IsD P)) : EnD K W (tCons ta tNil) ρ (fun ds => ∃ d, ds = [d] ∧ P d) := (end_cons h end_nil).imp fun ds ⟨d, es, e, p, q⟩ => ⟨d, by rw [e, q], p⟩
theorem isd_of {P : PyData → Prop} {Ψ : Int → Prop} (h : En K W te ρ (IsI Ψ)) (i : ∀ n, Ψ n → P (.int n)) : En K W te ρ (IsD P) := h.imp fun s ⟨n, e, p⟩ => ⟨.int n, e, i n p⟩
theorem isi_of {P : PyData → Prop} {Ψ : Int → Prop} (h : En K W te ρ (IsD P)) (i : ∀ d, P d → ∃ n, d = .int n ∧ Ψ n) : En K W te ρ (IsI Ψ) := h.imp fun s ⟨d, e, p⟩ => by
  obtain ⟨n, rfl, q⟩ := i d p
  exact ⟨n, e, q⟩
theorem isd_evd {P : PyData → Prop} (h : Evd K W te ρ d) (p : P d) : En K W te ρ (IsD P) := en_of_ev h ⟨d, rfl, p⟩
theorem En.isd {P P' : PyData → Prop} (h : En K W te ρ (IsD P)) (i : ∀ d, P d → P' d) : En K W te ρ (IsD P') := h.imp fun s ⟨d, e, p⟩ => ⟨d, e, i d p⟩
theorem en_eqS {x y : Str} (ha : Evd K W ta ρ (.str x)) (hb : Evd K W tb ρ (.str y)) : EnT K W (tTest (tOp rEq ta tb)) ρ (fun b => b = decide (x = y)) := ent_of (et_test (ev_eqS ha hb)) rfl
/-- an item of a list by a drawn place -/
theorem en_ixL {Ψ : Int → Prop} (ha : Evd K W ta ρ (.list ds)) (hb : En K W tb ρ (IsI Ψ)) (h : ∀ n, Ψ n → 0 ≤ n ∧ n < (ds.length : Int)) : En K W (tOp (rIxL K) ta tb) ρ (IsD fun d => d ∈ ds) :=
  en_op (Φ1 := (· = .dat (.list ds))) (Φ2 := IsI Ψ) (en_of_ev ha rfl) hb fun s1 s2 e1 ⟨n, e2, p⟩ => by
    subst e1 e2
    have hn := h n p
    have hl : n.toNat < ds.length := by omega
    have e : ds[n.toNat]? = some ds[n.toNat] := List.getElem?_eq_getElem hl
    have e3 : n = ((n.toNat : Nat) : Int) := by omega
    have e4 : atI ds n = some ds[n.toNat] := by
      generalize hm : n.toNat = m at *
      subst e3
      exact atI_nat e
    exact ⟨.dat ds[n.toNat], ⟨_, rfl, List.getElem_mem hl⟩, rs_ixL e4⟩
end
end Fw

/-! The frame, 9: what repr and == ask; tests that read one's own list. -/
namespace Fw
open PySem L2
open PyProof.Rows (envOfC)
/-- data that repr shows within B signs -/
structure Say (B n : Nat) (d : PyData) : Prop where
  shp : Shp n d
  sh : d.showable = true
  len : d.shown.length ≤ B
theorem say_int {i : Int} (h : i.natAbs < 2 ^ 200) : Say 62 0 (.int i) := by
  have h61 : i.natAbs < 10 ^ 61 := Nat.lt_of_lt_of_le h (by decide +kernel)
  refine ⟨shp_int i, ?_, ?_⟩
  · unfold PyData.showable
    refine decide_eq_true ?_
    by_cases z : i.natAbs = 0
    · rw [z]; decide
    · exact (Nat.log2_lt z).mpr (Nat.lt_of_lt_of_le h (Nat.pow_le_pow_right (by decide) (by decide)))
  · have e := int_text_length_le10 (k := 61) (by decide) h61
    show (Str.ofString (toString i)).length ≤ 62
    rw [ofString_length]
    exact e
theorem Say.mono {B C n m : Nat} {d : PyData} (h : Say B n d) (l : B ≤ C) (k : n ≤ m) : Say C m d := ⟨h.shp.mono k, h.sh, Nat.le_trans h.len l⟩
theorem say_all {B n : Nat} : ∀ {ds : List PyData}, (∀ d ∈ ds, Say B n d) → PyData.showableAll ds = true ∧ ((PyData.shownAll ds).map (·.length)).sum + 2 * (PyData.shownAll ds).length ≤ (B + 2) * ds.length
  | [], _ => ⟨rfl, by simp [PyData.shownAll]⟩
  | d :: ds, h => by
    have h1 := h d List.mem_cons_self
    have h2 := say_all (ds := ds) fun x hx => h x (List.mem_cons_of_mem _ hx)
    refine ⟨?_, ?_⟩
    · unfold PyData.showableAll
      rw [h1.sh, h2.1]
      rfl
    · unfold PyData.shownAll
      simp only [List.map_cons, List.sum_cons, List.length_cons]
      have := h1.len
      have := h2.2
      have hm : (B + 2) * (ds.length + 1) = (B + 2) * ds.length + (B + 2) := Nat.mul_succ _ _
      omega
theorem say_list {B n m : Nat} {ds : List PyData} (h : ∀ d ∈ ds, Say B n d) (hm : ds.length ≤ m) : Say ((B + 2) * m + 3) (n + 1) (.list ds) := by
  obtain ⟨h1, h2⟩ := say_all h
  refine ⟨shp_list fun d hd => (h d hd).shp, by unfold PyData.showable; exact h1, ?_⟩
  unfold PyData.shown
  have a := listText_len_le (PyData.shownAll ds)
  have b : (B + 2) * ds.length ≤ (B + 2) * m := Nat.mul_le_mul_left _ hm
  omega
theorem say_tuple {B n m : Nat} {ds : List PyData} (h : ∀ d ∈ ds, Say B n d) (hm : ds.length ≤ m) : Say ((B + 2) * m + 3) (n + 1) (.tuple ds) := by
  obtain ⟨h1, h2⟩ := say_all h
  refine ⟨shp_tuple fun d hd => (h d hd).shp, by unfold PyData.showable; exact h1, ?_⟩
  unfold PyData.shown
  have a := tupleText_len_le (PyData.shownAll ds)
  have b : (B + 2) * ds.length ≤ (B + 2) * m := Nat.mul_le_mul_left _ hm
  omega
section
variable {K : PySem.W.Frag} {W : Wd} {ms : List Addr} {B : Bs} {H H' : Hp} {ρ ρ' ρ1 : List Sl} {σ σ' : L2.St} {d e : PyData} {ds : List PyData} {s s1 s2 : Sl} {v : V} {vs : List V} {l : Addr} {i : Nat}
  {ta tb tc te tx tl ti tv tm : TE} {tt t u : TT} {wi : TI} {g : TG} {D : Ends} {ts ts' tz : TS} {Φ Φ1 Φ2 : Sl → Prop}
theorem ev_say {C n : Nat} (h : Evd K W te ρ d) (s : Say C n d) (hC : C ≤ 10000000) (hn : n ≤ 60) (hr : (∃ ds, d = .list ds) ∨ ∃ ds, d = .tuple ds) : Evd K W (tCB (rReprD K) (tCons te tNil)) ρ (.str d.shown) :=
  ev_repr h s.sh (PyData.hasDict_of_canLay d s.shp.1) (Nat.le_trans s.shp.2 hn) (Nat.le_trans s.len (Nat.le_trans hC (by decide))) hr
/-- repr(a) != repr(b), of one thing -/
theorem et_same {C n : Nat} (ha : Evd K W ta ρ d) (hb : Evd K W tb ρ d) (s : Say C n d) (hC : C ≤ 10000000) (hn : n ≤ 60) (hr : (∃ ds, d = .list ds) ∨ ∃ ds, d = .tuple ds) :
    EvT K W (tTest (tOp rNe (tCB (rReprD K) (tCons ta tNil)) (tCB (rReprD K) (tCons tb tNil)))) ρ false := et_eq (et_test (ev_neS (ev_say ha s hC hn hr) (ev_say hb s hC hn hr))) (by simp)
/-- a != b, of one thing -/
theorem et_like {n : Nat} (ha : Evd K W ta ρ d) (hb : Evd K W tb ρ d) (s : Shp n d) (hn : n ≤ 64) : EvT K W (tTest (tOp (rNeD K) ta tb)) ρ false := et_eq (et_test (ev_neD ha hb (s.shaped hn) (s.shaped hn))) (by rw [SeqAt.eqv_refl d s.1]; rfl)
/-- a test that reads one's own list, and fails -/
theorem q_unlessL (h : At K W (l :: ms) B ρ σ H) (o : Own K W (l :: ms) B l ds H) (hm : l ∉ ms) (hr : ρ[i]? = some (.raw (.ref l))) (e : EvT K W tt (ρ.set i (.dat (.list ds))) false) (k : ∀ H', At K W (l :: ms) B ρ σ H' → Own K W (l :: ms) B l ds H' → tz D σ H') : tSeq (tIfS tt ts tNext) tz D σ H := by
  refine e ms (B.off l) σ H (h.off.lend ⟨o.mem, o.nws, o.h0, o.val⟩ hm (by show (if l = l then none else B.hb l) = none; rw [if_pos rfl]) hr) _ fun H1 h1 x1 => ?_
  obtain ⟨vs, el, dd⟩ := o.val
  have e1 := x1 l _ o.nws el
  refine iteF (k H1 (h.go x1 (fun a z => (List.mem_cons.mp z).elim (fun q => by rw [q]; exact ⟨_, e1⟩) (h1.live a)) h1.p) (o.go h.sub x1))
theorem q_unless (h : At K W ms B ρ σ H) (e : EvT K W tt ρ false) (k : ∀ H', At K W ms B ρ σ H' → tz D σ H') : tSeq (tIfS tt ts tNext) tz D σ H := q_when (b := false) h e (fun q => nomatch q) fun _ H' h' _ => k H' h'
theorem s_unless (h : At K W ms B ρ σ H) (e : EvT K W tt ρ false) (k : ∀ H', At K W ms B ρ σ H' → D.nx σ H') : tIfS tt ts tNext D σ H := s_if (b := false) h e (fun q => nomatch q) fun _ H' h' _ => k H' h'
/-- the for over one of several lists; the slots of a turn know its item -/
theorem s_forD {α : Type} {Ψ : List PyData → Prop} {R : Nat → α → List Sl} {S : Nat → α → PyData → List Sl} {X : Nat → α → Hp → Prop} (p0 : α) (h : At K W ms B ρ σ H) (sr : SrcN K W wi ρ Ψ) (l0 : Le (R 0 p0) ρ) (x0 : ∀ H1, At K W ms B ρ σ H1 → XW W.ws H H1 → X 0 p0 H1)
    (tg : ∀ ds, Ψ ds → ∀ i p d, ds[i]? = some d → ∃ js, Tg K W g js d (R i p) (S i p d))
    (hs : ∀ ds, Ψ ds → ∀ Hb i p d σ' H', ds[i]? = some d → At K W ms ⟨B.h0, Hb⟩ (S i p d) σ' H' → X i p H' → ts { D with nx := fun σ H => ∃ p', At K W ms ⟨B.h0, Hb⟩ (R (i + 1) p') σ H ∧ X (i + 1) p' H, ct := fun σ H => ∃ p', At K W ms ⟨B.h0, Hb⟩ (R (i + 1) p') σ H ∧ X (i + 1) p' H, bk := D.nx } σ' H')
    (hd : ∀ ds, Ψ ds → ∀ p σ' H', At K W ms B (R ds.length p) σ' H' → X ds.length p H' → D.nx σ' H') (xs : ∀ i p H H', Same H H' → Live ms H → X i p H → X i p H') : tFor wi g ts D σ H := sr ms B σ H h _ fun ds J H1 ψ h1 x1 stm => by
  obtain ⟨G, Y, wk, st⟩ := stm
  refine for_it wk (fun i σ H => ∃ p, At K W ms ⟨B.h0, H1⟩ (R i p) σ H ∧ X i p H) ⟨p0, h1.re.le l0, x0 H1 h1 x1⟩ (fun i σ H _ ⟨p, a, _⟩ => (st ms H a.st).1) (fun i x σ H H' hi ⟨p, a, xx⟩ y => ?_) fun σ H ⟨p, a, xx⟩ => hd ds ψ p σ H (h1.un a) xx
  obtain ⟨s, hdt⟩ := (st ms H a.st).2 i x H' a.live y
  have hx : ds[i]? = some ds[i] := List.getElem?_eq_getElem hi
  obtain ⟨js, tj⟩ := tg ds ψ i p _ hx
  exact tj ms _ σ H' x (a.same s) (hdt _ hx) _ fun σ2 h2 _ => hs ds ψ H1 i p _ σ2 H' hx h2 (xs i p H H' s a.live xx)
theorem q_forD {α : Type} {Ψ : List PyData → Prop} {R : Nat → α → List Sl} {S : Nat → α → PyData → List Sl} {X : Nat → α → Hp → Prop} (p0 : α) (h : At K W ms B ρ σ H) (sr : SrcN K W wi ρ Ψ) (l0 : Le (R 0 p0) ρ) (x0 : ∀ H1, At K W ms B ρ σ H1 → XW W.ws H H1 → X 0 p0 H1)
    (tg : ∀ ds, Ψ ds → ∀ i p d, ds[i]? = some d → ∃ js, Tg K W g js d (R i p) (S i p d))
    (hs : ∀ ds, Ψ ds → ∀ Hb i p d σ' H', ds[i]? = some d → At K W ms ⟨B.h0, Hb⟩ (S i p d) σ' H' → X i p H' → ts { D with nx := fun σ H => ∃ p', At K W ms ⟨B.h0, Hb⟩ (R (i + 1) p') σ H ∧ X (i + 1) p' H, ct := fun σ H => ∃ p', At K W ms ⟨B.h0, Hb⟩ (R (i + 1) p') σ H ∧ X (i + 1) p' H, bk := tz D } σ' H')
    (hd : ∀ ds, Ψ ds → ∀ p σ' H', At K W ms B (R ds.length p) σ' H' → X ds.length p H' → tz D σ' H') (xs : ∀ i p H H', Same H H' → Live ms H → X i p H → X i p H') : tSeq (tFor wi g ts) tz D σ H :=
  s_forD (D := { D with nx := tz D }) p0 h sr l0 x0 tg hs hd xs
end
end Fw

/-! The frame, 10: the law is entered at the claim's own caller (whose row of guards is empty: repr of lists may be shown). -/
namespace Fw
open PySem L2 PySem.Spec
open PyProof.Rows
section
variable {P : Program} {w : World} {K : PySem.W.Frag} {mg mb : Str → Option Value} {base : Heap}
/-- what a law's body keeps, entered from the caller -/
structure LawAt (P : Program) (w : World) (K : PySem.W.Frag) (mg : Str → Option Value) (x : Str) (st : Stmt) (f : Addr) (fd : FuncData) (k n : Nat) (p : Str) : Prop where
  fn : Fun K x x st f fd
  nm : ∃ N : List Str, FnScope N [p] (defScope st) ∧ ∀ (base : Heap) (cdv : Value) (s : Shared) (H : Hp), Mod K mg base → Room k (callerA.deeper (envOfC x (defScope st) s.heap.objs.size f cdv)) →
    ∃ t, PSs (cxOf CX0 P w K mg base N x (defScope st) f cdv callerA [] s H E0).nox (defBody st) t ∧
      ∀ (a : Addr) (ns : List Int), ns.length ≤ n → At K W0 [] ⟨H, H⟩ (slots N.length [.list (ns.map .int)]) (L2.start N [.ref a]) H → t { nx := fun _ _ => False, rt := fun v _ => v = .bl true } (L2.start N [.ref a]) H
theorem law_runs {x p : Str} {st : Stmt} {f a : Addr} {fd : FuncData} {k n : Nat} {s : Shared} {H : Hp} {ns : List Int} (L : LawAt P w K mg x st f fd k n p) (hr : Room (k + 1) callerA)
    (e0 : Env0 P w K mg base callerA [] s H) (hb : BindsTo s fd ⟨[.ref a], []⟩ [(p, .ref a)]) (hl : ns.length ≤ n) (hS : SqL K H a (ns.map .int)) :
    codeAny (model P w) callerA (.call (.ref f) ⟨[.ref a], []⟩) (CR CX0 [] P w H s (fun v _ => v = .bl true) E0) s := by
  obtain ⟨cl, od, kV, doc, pm, an, cdv, ct, osl, rfl, found, hc⟩ := L.fn.ex
  obtain ⟨N, S, hN⟩ := L.nm
  have KX : K.In s.heap := e0.mod.kin.keeps fun b o q => (e0.bs b o q).1
  refine codeAny_call_function (hroom := hr.depth) (KX _ _ found) rfl S.co S.gen rfl (PySem.W.codeRec_of KX hc) (hb _ _ _ _ ?_)
  refine wpAny_newFunctionEnv_cells S.kind (fun y hy => ?_) fun env he s1 z => ?_
  · obtain rfl : y = (p, .ref a) := List.mem_singleton.mp hy
    rcases S.par p List.mem_cons_self with q | q
    · exact .inl q
    · exact .inr ⟨q, PySem.W.cellsFrom_some _ _ _ (.inl q)⟩
  subst he
  refine ⟨e0.mod.nolimit.keeps fun b o q => z.toInCall.keep b o ((e0.bs b o q).1), codeAny_func ?_⟩
  obtain ⟨t, ht, hq⟩ := hN base cdv s H e0.mod (hr.deeper _)
  have I : Inv (cxOf CX0 P w K mg base N x (defScope st) f cdv callerA [] s H E0) [] (L2.start N [.ref a]) H s1 := inv_start (us := [.ref a]) S hr.hd e0 rfl (.cons rfl .nil) z
  have h0 : At K W0 [] ⟨H, H⟩ (slots N.length [.list (ns.map .int)]) (L2.start N [.ref a]) H := at_start (fun b q => by cases q) (.cons (.lst (sql_mono (fun b o q => by rw [cut_out (by simp)]; exact q) hS) (dpa_of_ints _ _ _)) .nil)
  refine wpAny_mono (ht.nox.run [] s1 _ H _ I (hq a ns hl h0)) (fun fl s' g => ?_) fun e s' g => g
  cases fl with
  | ret u =>
    obtain ⟨v, σ', H', J, rv, q⟩ := g
    exact ⟨v, H', J.os, J.bare, J.base, J.hok, rv, q⟩
  | next => obtain ⟨_, _, _, q⟩ := g; exact q.elim
  | brk => obtain ⟨_, _, _, q⟩ := g; exact q.elim
  | cont => obtain ⟨_, _, _, q⟩ := g; exact q.elim
/-- the heap as the law sees it: nothing tracked but the script -/
theorem heap_of {s : Shared} {a : Addr} {vs : List Value} {ns : List Int} (KX : K.In s.heap) (ha : s.heap.get? a = some { cls := .type "list", data := .seq vs.toArray }) (hi : IntsAre vs ns) (hl : ns.length ≤ sizeLine) :
    ∃ H : Hp, (∀ b u, H b = some u → b = a ∧ ∃ o xs, u = .frz o (.lst xs)) ∧ SqL K H a (ns.map .int) ∧ HOk P w H s.heap ∧ (H a ≠ none → K.lookup a = none) := by
  have rv := vals_ints hi
  cases hk : K.lookup a with
  | some o =>
    have e := KX a o hk
    rw [ha] at e
    cases e
    exact ⟨fun _ => none, fun b u q => (nomatch (show (none : Option HO) = some u from q)), .inr ⟨_, vs.toArray, _, hk, rfl, rfl, rfl, by rw [List.size_toArray, hi.length]; exact hl, by simpa using rv⟩, fun b u q => (nomatch (show (none : Option HO) = some u from q)), fun q => absurd rfl q⟩
  | none =>
    have at_ : ∀ b u, (if b = a then some (HO.frz { cls := .type "list", data := .seq vs.toArray } (.lst (ns.map .int))) else none) = some u → b = a ∧ u = .frz { cls := .type "list", data := .seq vs.toArray } (.lst (ns.map .int)) := fun b u q => by
      split at q
      · cases q
        exact ⟨by assumption, rfl⟩
      · cases q
    refine ⟨fun b => if b = a then some (.frz { cls := .type "list", data := .seq vs.toArray } (.lst (ns.map .int))) else none, fun b u q => ?_, .inl (.inr ⟨{ cls := .type "list", data := .seq vs.toArray }, if_pos rfl⟩), fun b u q => ?_, fun _ => rfl⟩
    · obtain ⟨rfl, rfl⟩ := at_ b u q
      exact ⟨rfl, _, _, rfl⟩
    · obtain ⟨rfl, rfl⟩ := at_ b u q
      exact ⟨ha, by rw [List.length_map]; exact hl, vs, _, rv, ha⟩
theorem law_from {x p : Str} {st : Stmt} {f a : Addr} {fd : FuncData} {k n : Nat} {s : Shared} {vs : List Value} {ns : List Int} (KX : K.In s.heap) (g1 : s.heap.Ns mainGlobals mg) (g2 : s.heap.Ns builtinsNs mb) (g3 : ∀ y : Str, y ≠ "__name__" → mb y = bootBuiltins y)
    (g4 : s.heap.NoLimit) (g5 : s.gens = #[]) (ha : s.heap.get? a = some { cls := .type "list", data := .seq vs.toArray }) (hi : IntsAre vs ns) (hl : ns.length ≤ n) (hn : n ≤ sizeLine) (hr : Room (k + 1) callerA) (L : LawAt P w K mg x st f fd k n p)
    (hb : ∀ (s : Shared) (u : Value), BindsTo s fd ⟨[u], []⟩ [(p, u)]) :
    codeAny (model P w) callerA (.call (.ref f) ⟨[.ref a], []⟩) (fun r s' => r = .ok (.ret (.bool true)) ∧ OldK s.heap s'.heap ∧ s'.os = s.os ∧ AllBare s'.gens) s := by
  obtain ⟨H, only, hS, hok, hK⟩ := heap_of (P := P) (w := w) KX ha hi (Nat.le_trans hl hn)
  have free : ∀ {b : Addr} {o : Obj}, s.heap.get? b = some o → (b = a → False) → (hidT s.heap H).get? b = some o := fun {b o} e z => hidT_get e (by
    cases q : H b with
    | none => rfl
    | some u => exact (z (only b u q).1).elim)
  have spaces : ∀ {b : Addr} {m : Str → Option Value}, s.heap.Ns b m → (hidT s.heap H).Ns b m := fun {b m} ⟨o, es, ep, e, d, r⟩ => ⟨o, es, ep, free e (fun z => by
    subst z
    rw [ha] at e
    cases e
    exact nomatch (show Data.seq vs.toArray _ = Data.dict es ep from d)), d, r⟩
  have KH : K.In (hidT s.heap H) := fun b o e => hidT_get (KX b o e) (by
    cases q : H b with
    | none => rfl
    | some u =>
      obtain ⟨rfl, _⟩ := only b u q
      rw [hK (by rw [q]; simp)] at e
      cases e)
  have M : Mod K mg (hidT s.heap H) := ⟨KH, spaces g1, ⟨mb, spaces g2, g3⟩, let ⟨mc, h1, h2⟩ := g4; ⟨mc, spaces h1, h2⟩⟩
  have e0 : Env0 P w K mg (hidT s.heap H) callerA [] s H := ⟨rfl, M, fun b o e => of_hidT e, Nat.le_of_eq (hidT_size _ _), trivial, fun b z => (nomatch (show b ∈ ([] : List Addr) from z)), hok, .of_eq g5⟩
  refine codeAny_mono (law_runs L hr e0 (hb s (.ref a)) hl hS) fun r s' h => ?_
  match r, h with
  | .error e, h => exact h.elim
  | .ok .next, h => exact h.elim
  | .ok .brk, h => exact h.elim
  | .ok .cont, h => exact h.elim
  | .ok (.ret u), h =>
    obtain ⟨v, H2, os, bare, un, ok2, rel, q⟩ := h
    obtain rfl : v = .bl true := q
    obtain rfl : u = Value.bool true := rel
    refine ⟨rfl, OldK.of_keep fun b o e => ?_, os, bare⟩
    cases q : H b with
    | none => exact un.keep b o e q (fun z => nomatch (show b ∈ ([] : List Addr) from z)) (by simp)
    | some u2 =>
      obtain ⟨_, ob, xs, rfl⟩ := only b u2 q
      obtain ⟨e1, _⟩ := hok b _ q
      obtain ⟨e2, _⟩ := ok2 b _ (un.frzs b ob _ q)
      rw [e] at e1
      cases e1
      exact e2
end
/-- the end of a row whose law shows lists -/
theorem walk_at {l : PySem.W.OpenLaw} {q : Program} {n k : Nat} {loose : List Str} {XP : (Str → Option Value) → Heap → Prop} {YP : World → Heap → Prop} {d : DefRec} {K : Params → PySem.W.Frag} {st : Stmt} {p : Str} (hn : l.most = some n) (hn2 : n ≤ sizeLine) (hdf : d.params.defaults = []) (hr : Room (k + 1) callerA)
    (hY : ∀ (w : World) (h : Heap), YP w h → (K w.params).In h)
    (F : ∀ (w : World) (mg : Str → Option Value) (fa : Addr) (h : Heap), (K w.params).In h → h.Ns mainGlobals mg → XP mg h → mg d.name = some (.ref fa) →
      ∃ fd : FuncData, (∀ (s : Shared) (u : Value), BindsTo s fd ⟨[u], []⟩ [(p, u)]) ∧ LawAt l.prog w (K w.params) mg d.name st fa fd k n p) :
    PySem.W.WalkO q loose XP YP l.row.toRowW d [] (fun f vs => PySem.call f vs) := by
  refine Att.attach_call hn hdf fun w s0 s1 mg mb fa o pm cd doc a vs ns G Y _ _ _ hm ha hi hl hg => ?_
  have KX := hY w _ Y
  obtain ⟨fd, hb, L⟩ := F w mg fa _ KX G.T.g G.X hm
  exact law_from KX G.T.g G.T.b G.T.builtins G.T.nolimit hg ha hi hl hn2 hr L hb
end Fw

/-! The frame, 11: sorted pairs, places of items, slices, sums of lists, tuples that are compared. -/
namespace Fw
open PySem L2
open PyProof.Rows (envOfC)
def pairI (p : Int × Int) : PyData := .tuple [.int p.1, .int p.2]
/-- an item that is a tuple of two ints -/
def PairV (K : PySem.W.Frag) (H : Hp) (x : V) (p : Int × Int) : Prop := ∃ t, x = .ref t ∧ SqT K H t [.int p.1, .int p.2]
def lexLe (p q : Int × Int) : Prop := p.1 < q.1 ∨ (p.1 = q.1 ∧ p.2 ≤ q.2)
def rSortedPD (K : PySem.W.Frag) : List V → Hp → VK → Prop := fun vs H Q => ∃ (a : Addr) (xs : List V) (ps : List (Int × Int)), vs = [.ref a] ∧ SqL K H a xs ∧ Paired (PairV K H) xs ps ∧
  ∀ ys p qs, (∀ R : V → Int × Int → Prop, Paired R xs ps → Paired R ys qs) → qs.Perm ps → qs.Pairwise lexLe → H p = none → Q (.ref p) (upd H p (.lst ys))
theorem paired_mem {α β : Type} {Φ : α → β → Prop} : ∀ {xs : List α} {ps : List β}, Paired Φ xs ps → ∀ x ∈ xs, ∃ p ∈ ps, Φ x p
  | _, _, .nil, x, h => nomatch h
  | _, _, .cons a t, x, h => by
    rcases List.mem_cons.mp h with e | e
    · subst e; exact ⟨_, List.mem_cons_self, a⟩
    · obtain ⟨p, hp, q⟩ := paired_mem t x e
      exact ⟨p, List.mem_cons_of_mem _ hp, q⟩
theorem paired_of {α β : Type} {Φ : α → β → Prop} (k : α → β) : ∀ {xs : List α}, (∀ x ∈ xs, Φ x (k x)) → Paired Φ xs (xs.map k)
  | [], _ => .nil
  | x :: xs, h => .cons (h x List.mem_cons_self) (paired_of k fun y hy => h y (List.mem_cons_of_mem _ hy))
theorem paired_fun {α β : Type} {Φ : α → β → Prop} (k : α → β) (u : ∀ x p, Φ x p → p = k x) : ∀ {xs : List α} {ps : List β}, Paired Φ xs ps → ps = xs.map k
  | _, _, .nil => rfl
  | _, _, .cons a t => by rw [List.map_cons, ← u _ _ a, ← paired_fun k u t]
theorem paired_at {α β : Type} {Φ : α → β → Prop} {k : α → β} : ∀ {xs : List α}, Paired Φ xs (xs.map k) → ∀ x ∈ xs, Φ x (k x)
  | [], _, x, h => nomatch h
  | y :: xs, t, x, h => by
    cases t with
    | cons a t =>
      rcases List.mem_cons.mp h with e | e
      · subst e; exact a
      · exact paired_at t x e
/-- the two ints that stand at v -/
def pairAt (h : Heap) (v : Value) : Int × Int := match v with
  | .ref t => match h.get? t with
    | some o => match o.data with
      | .seq vs _ => match vs.toList with
        | [.int i _, .int j _] => (i, j)
        | _ => (0, 0)
      | _ => (0, 0)
    | none => (0, 0)
  | _ => (0, 0)
section
variable {X : Cx}
theorem cr_sortedPD : CallR X (.builtin "sorted") (rSortedPD X.K) := by
  intro pins s σ H vs us Q I r h
  obtain ⟨a, xs, ps, rfl, hs, hx, q⟩ := h
  obtain ⟨its, rv, hl, hz⟩ := I.list hs
  obtain ⟨u, rfl, ru⟩ := vals1 r
  obtain rfl : u = Value.ref a := ru
  obtain ⟨e1, e2⟩ := refs_back rv fun x m => by
    obtain ⟨_, _, t, e, _⟩ := paired_mem hx x m
    exact ⟨t, e⟩
  have key : ∀ (x : V) (p : Int × Int), PairV X.K H x p → ∃ t, x = .ref t ∧ Srt.IsPair s.heap (.ref t) p.1 p.2 ∧ pairAt s.heap (.ref t) = p := fun x p hp => by
    obtain ⟨t, rfl, st⟩ := hp
    obtain ⟨its2, r2, ⟨o, ho, hc, n, hd⟩, _⟩ := I.tuple st
    obtain ⟨u1, u2, rfl, ri, rj⟩ := vals2 r2
    obtain ⟨t1, rfl⟩ := ri
    obtain ⟨t2, rfl⟩ := rj
    exact ⟨t, rfl, ⟨t, o, t1, t2, n, rfl, ho, hc, hd⟩, by unfold pairAt; simp only [ho, hd]⟩
  have kb : ∀ v ∈ its, ∃ t p, v = .ref t ∧ V.ref t ∈ xs ∧ PairV X.K H (.ref t) p ∧ Srt.IsPair s.heap (.ref t) p.1 p.2 ∧ pairAt s.heap (.ref t) = p := fun v hv => by
    obtain ⟨t, rfl⟩ := e2 v hv
    have hm : V.ref t ∈ xs := by rw [e1]; exact List.mem_map.mpr ⟨_, hv, rfl⟩
    obtain ⟨p, _, hp⟩ := paired_mem hx _ hm
    obtain ⟨t', e, ip, pa⟩ := key _ _ hp
    cases e
    exact ⟨t, p, rfl, hm, hp, ip, pa⟩
  refine SrtO.sorted_pairsO (k := pairAt s.heap) hl.isList (by rw [← rv.length]; exact hz) (fun v hv => ?_) fun h' d out h1 h2 kp hd hn => ?_
  · obtain ⟨t, p, rfl, _, _, ip, pa⟩ := kb v hv
    rw [pa]
    exact ip
  · have ho : ∀ v ∈ out, v ∈ its := fun v hv => h2.perm.mem_iff.mp hv
    obtain ⟨n, hn⟩ := hn
    let kk : V → Int × Int := fun x => match x with | .ref t => pairAt s.heap (.ref t) | _ => (0, 0)
    have e3 : ∀ l : List Value, (∀ v ∈ l, v ∈ its) → l.map (pairAt s.heap) = (l.map backV).map kk := fun l hl => by
      rw [List.map_map]
      refine List.map_congr_left fun v hv => ?_
      obtain ⟨t, p, rfl, _⟩ := kb v (hl v hv)
      rfl
    have eps0 : ps = xs.map kk := paired_fun kk (fun x p hp => by
        obtain ⟨t, rfl, _, pa⟩ := key x p hp
        exact pa.symm) hx
    have eps : ps = its.map (pairAt s.heap) := by
      rw [e3 its fun _ z => z, eps0, ← e1]
    have ys : ∀ R : V → Int × Int → Prop, Paired R xs ps → Paired R (out.map backV) (out.map (pairAt s.heap)) := fun R hR => by
      rw [e3 out ho]
      refine paired_of kk fun y hy => ?_
      obtain ⟨v, hv, rfl⟩ := List.mem_map.mp hy
      rw [eps0] at hR
      exact paired_at hR _ (by rw [e1]; exact List.mem_map.mpr ⟨v, ho v hv, rfl⟩)
    have hb : (out.map (pairAt s.heap)).Perm ps := by
      rw [eps]
      exact h2.perm.map _
    have hs : (out.map (pairAt s.heap)).Pairwise lexLe := by
      refine List.pairwise_map.mpr (h1.imp fun {x y} z => ?_)
      have := SrtO.lexB_no.mp z
      unfold lexLe
      omega
    refine ⟨.ref d, upd H d (.lst (out.map backV)), I.laid (t' := s.toks) kp hd ⟨?_, out, n, vals_back (fun v hv => e2 v (ho v hv)), hn⟩, rfl, q _ d _ ys hb hs (I.hok.fresh hd)⟩
    rw [List.length_map, h2.perm.length_eq, ← rv.length]
    exact hz
/-- list + list, of any two lists -/
def rCatD (K : PySem.W.Frag) : R2 := fun x y H Q => ∃ l b xs zs, x = .ref l ∧ y = .ref b ∧ SqL K H l xs ∧ SqL K H b zs ∧ xs.length + zs.length ≤ sizeLine ∧ ∀ p, H p = none → Q (.ref p) (upd H p (.lst (xs ++ zs)))
theorem op_catD : OpR X (binaryOp .Add) (rCatD X.K) := by
  intro pins s σ H x y v u Q I rx ry ⟨l, b, xs, zs, ex, ey, hx, hy, hz, q⟩
  subst ex ey
  cases rx
  cases ry
  obtain ⟨i1, r1, ⟨⟨c1, d1, t1, sl1⟩, n1, g1, k1, _, w1⟩, _⟩ := I.list hx
  obtain ⟨i2, r2, ⟨⟨c2, d2, t2, sl2⟩, n2, g2, k2, _, w2⟩, _⟩ := I.list hy
  simp only at k1 w1 k2 w2
  subst k1 w1 k2 w2
  have e : i1.toArray ++ i2.toArray = (i1 ++ i2).toArray := by simp
  have hl : i1.toArray.size + i2.toArray.size ≤ sizeLine := by
    rw [List.size_toArray, List.size_toArray, ← r1.length, ← r2.length]
    exact hz
  refine concat_meets ⟨_, g1, rfl⟩ ⟨_, g2, rfl⟩ noFill_list_add seq_list_add PySem.F.slot_list_add PySem.F.entry_list_add (PySem.F.args_list_add_2 _ _)
    (PyProof.Rows.list_addW l b i1.toArray i2.toArray n1 n2 d1 d2 sl1 sl2 hl) ⟨g1, g2, ?_⟩
  rw [e]
  exact ⟨.ref _, _, I.lnew (t' := s.toks) (r1.append r2) (by rw [List.length_append]; exact hz), rfl, q _ I.fresh⟩
end
section
variable {K : PySem.W.Frag} {W : Wd} {ms : List Addr} {B : Bs} {H H' : Hp} {ρ ρ' ρ1 : List Sl} {σ σ' : L2.St} {d e : PyData} {ds es : List PyData} {s s1 s2 : Sl} {v : V} {vs : List V} {l : Addr} {i : Nat}
  {ta tb tc te tx tl ti tv tm : TE} {tt t u : TT} {wi : TI} {g : TG} {D : Ends} {ts ts' tz : TS} {Φ Φ1 Φ2 : Sl → Prop}
theorem dpa_take : ∀ {ds : List PyData} {vs : List V} (j : Nat), DpAll K H vs ds → DpAll K H (vs.take j) (ds.take j)
  | [], _, j, h => by cases h; simp; exact .nil
  | d :: ds, _, 0, h => by simp; exact .nil
  | d :: ds, _, j + 1, h => by
    cases h with
    | cons a t => rw [List.take_succ_cons, List.take_succ_cons]; exact .cons a (dpa_take j t)
theorem dpa_drop : ∀ {ds : List PyData} {vs : List V} (j : Nat), DpAll K H vs ds → DpAll K H (vs.drop j) (ds.drop j)
  | [], _, j, h => by cases h; simp; exact .nil
  | d :: ds, _, 0, h => h
  | d :: ds, _, j + 1, h => by
    cases h with
    | cons a t => rw [List.drop_succ_cons, List.drop_succ_cons]; exact dpa_drop j t
theorem ev_cat (ha : Evd K W ta ρ (.list ds)) (hb : Evd K W tb ρ (.list es)) (hz : ds.length + es.length ≤ 100000) : Evd K W (tOp (rCatD K) ta tb) ρ (.list (ds ++ es)) := ev_op ha hb fun ms H x y lv hx hy Q q => by
  cases hx with
  | lst sx dx => cases hy with
    | lst sy dy => exact ⟨_, _, _, _, rfl, rfl, sql_mono cut_le sx, sql_mono cut_le sy, by rw [dpa_len dx, dpa_len dy]; exact le_line hz, fun p hp => q _ _ (same_put hp) (Sl.new_lst lv hp (dpa_app dx dy))⟩
theorem ev_till {j : Nat} (ha : Evd K W ta ρ (.list ds)) (hb : Evd K W tb ρ (.int (j : Int))) (hj : j ≤ ds.length) : Evd K W (tSl (rSlL K) ta tNoPart (tPart tb)) ρ (.list (ds.take j)) := fun ms B σ H a Q q => ha ms B σ H a _ fun v H1 h1 x1 o1 => hb ms B σ H1 h1 _ fun w H2 h2 x2 o2 => by
  cases o2
  have o3 := dp_mono (x2.cut h1.sub) _ _ o1
  cases o3 with
  | lst sx dx =>
    refine ⟨_, rfl, _, _, rfl, sql_mono cut_le sx, fun p hp => q _ _ (h2.same (same_put hp)) ((x1.trans x2).trans (.of_same (same_put hp))) ?_⟩
    have e : ∀ xs : List V, xs.length = ds.length → cutV xs none (some (j : Int)) = xs.take j := fun xs hx => by
      unfold cutV
      rw [HT.sIx_none, HT.sIx_nat, List.drop_zero, Nat.sub_zero, hx, Nat.min_eq_left hj]
    rw [e _ (dpa_len dx)]
    exact Sl.new_lst h2.live hp (dpa_take j dx)
theorem ev_from {j : Nat} (ha : Evd K W ta ρ (.list ds)) (hb : Evd K W tb ρ (.int (j : Int))) (hj : j ≤ ds.length) : Evd K W (tSl (rSlL K) ta (tPart tb) tNoPart) ρ (.list (ds.drop j)) := fun ms B σ H a Q q => ha ms B σ H a _ fun v H1 h1 x1 o1 => hb ms B σ H1 h1 _ fun w H2 h2 x2 o2 => by
  cases o2
  have o3 := dp_mono (x2.cut h1.sub) _ _ o1
  cases o3 with
  | lst sx dx =>
    refine ⟨_, rfl, _, _, rfl, sql_mono cut_le sx, fun p hp => q _ _ (h2.same (same_put hp)) ((x1.trans x2).trans (.of_same (same_put hp))) ?_⟩
    have e : ∀ xs : List V, xs.length = ds.length → cutV xs (some (j : Int)) none = xs.drop j := fun xs hx => by
      unfold cutV
      rw [HT.sIx_none, HT.sIx_nat, hx, Nat.min_eq_left hj, List.take_of_length_le (by rw [List.length_drop, hx]; exact Nat.le_refl _)]
    rw [e _ (dpa_len dx)]
    exact Sl.new_lst h2.live hp (dpa_drop j dx)
theorem ev_ltT {ns ks : List Int} (ha : Evd K W ta ρ (.tuple (ns.map .int))) (hb : Evd K W tb ρ (.tuple (ks.map .int))) : Evd K W (tOp (rLtT K) ta tb) ρ (.bool (HT.lexLt ns ks)) := ev_op ha hb fun ms H x y lv hx hy Q q => by
  cases hx with
  | tup sx dx => cases hy with
    | tup sy dy =>
      obtain rfl := dpa_ints dx
      obtain rfl := dpa_ints dy
      exact ⟨_, _, _, _, rfl, rfl, sqt_mono cut_le sx, sqt_mono cut_le sy, q _ H (Same.refl H) (.bl _)⟩
theorem ev_place {ns : List Int} {j : Nat} {x : Int} (ha : Evd K W ta ρ (.list (ns.map .int))) (hb : Evd K W tb ρ (.int x)) (hj : ns[j]? = some x) (hno : ∀ m : Nat, m < j → ns[m]? ≠ some x) : Evd K W (tBM K "list" (rIndex K) ta (tCons tb tNil)) ρ (.int (j : Int)) := fun ms B σ H a Q q => ha ms B σ H a _ fun v H1 h1 x1 o1 => by
  cases o1 with
  | lst sx dx =>
    obtain rfl := dpa_ints dx
    refine ⟨.inl ⟨rfl, _, sql_mono cut_le sx⟩, hb ms B σ H1 h1 _ fun w H2 h2 x2 o2 => ?_⟩
    cases o2
    refine ⟨_, _, _, j, .int x, rfl, rfl, sql_mono ((x2.cut h1.sub).trans cut_le) sx, rfl, List.all_eq_true.mpr fun z hz => ?_, by rw [List.getElem?_map, hj]; rfl, by simp [eqV], fun m z hm hz => ?_, q _ H2 h2 (x1.trans x2) (.int _)⟩
    · obtain ⟨n, _, rfl⟩ := List.mem_map.mp hz
      rfl
    · rw [List.getElem?_map] at hz
      cases e : ns[m]? with
      | none => rw [e] at hz; cases hz
      | some n =>
        rw [e] at hz
        cases hz
        have := hno m hm
        rw [e] at this
        show (n == x) = false
        exact beq_eq_false_iff_ne.mpr fun z => this (by rw [z])
theorem ev_neg {j : Int} (h : Evd K W te ρ (.int j)) : Evd K W (tUn (rU fun i => .int (-i)) te) ρ (.int (-j)) := fun ms B σ H a Q q => h ms B σ H a _ fun v H1 h1 x1 o1 => by
  cases o1
  exact ⟨j, rfl, q _ H1 h1 x1 (.int _)⟩
/-- sorted(pairs of ints) -/
theorem ef_sortedP {ps : List (Int × Int)} (h : Evd K W te ρ (.list (ps.map pairI))) : EvF K W (tCB (rSortedPD K) (tCons te tNil)) ρ (fun es => ∃ qs : List (Int × Int), es = qs.map pairI ∧ qs.Perm ps ∧ qs.Pairwise lexLe) := fun ms B σ H a Q q => h ms B σ H a _ fun v H1 h1 x1 o1 => by
  cases o1 with
  | @lst _ xs _ sx dx =>
    have conv : ∀ {ps : List (Int × Int)} {xs : List V}, DpAll K (cut ms H1) xs (ps.map pairI) → Paired (fun x p => PairV K H1 x p ∧ Dp K (cut ms H1) x (pairI p)) xs ps := fun {ps} => by
      induction ps with
      | nil => intro xs h; cases h; exact .nil
      | cons p ps ih =>
        intro xs h
        cases h with
        | cons a t =>
          refine .cons ⟨?_, a⟩ (ih t)
          cases a with
          | tup st da =>
            obtain rfl := dpa_ints (ns := [p.1, p.2]) da
            exact ⟨_, rfl, sqt_mono cut_le st⟩
    have back : ∀ {qs : List (Int × Int)} {ys : List V}, Paired (fun x p => PairV K H1 x p ∧ Dp K (cut ms H1) x (pairI p)) ys qs → DpAll K (cut ms H1) ys (qs.map pairI) := fun {qs ys} h => by
      induction h with
      | nil => exact .nil
      | cons a _ ih => exact .cons a.2 ih
    have pp := conv dx
    have strip : ∀ {qs : List (Int × Int)} {ys : List V}, Paired (fun x p => PairV K H1 x p ∧ Dp K (cut ms H1) x (pairI p)) ys qs → Paired (PairV K H1) ys qs := fun {qs ys} h => by
      induction h with
      | nil => exact .nil
      | cons a _ ih => exact .cons a.1 ih
    have p0 := strip pp
    refine ⟨_, _, ps, rfl, sql_mono cut_le sx, p0, fun ys p qs hR hp hs hn => ?_⟩
    have hp0 : H p = none := by
      have hw := (h1.fresh hn).2.2
      cases z : H p with
      | none => rfl
      | some o => rw [x1 p o hw z] at hn; cases hn
    exact q _ p ys _ ⟨qs, rfl, hp, hs⟩ (h1.same (same_put hn)) (x1.trans (.of_same (same_put hn))) hp0 upd_same (dpa_mono ((cut_new hn).trans cut_drop) _ _ (back (hR _ pp)))
end
end Fw

/-! The frame, 12: bools shown and compared; the last item. -/
namespace Fw
open PySem L2
open PyProof.Rows (envOfC)
def rReprB : List V → Hp → VK → Prop := fun xs H Q => ∃ b : Bool, xs = [.bl b] ∧ Q (.str (if b then "True" else "False")) H
theorem cr_reprB {X : Cx} : CallR X (.builtin "repr") rReprB := by
  intro pins s σ H xs us Q I r ⟨b, e, q⟩
  subst e
  obtain ⟨u, rfl, ru⟩ := vals1 r
  obtain rfl : u = Value.bool b := ru
  exact PySem.P.repr_of_bool ⟨.str _, H, I.tok _, ⟨_, rfl⟩, q⟩
section
variable {K : PySem.W.Frag} {W : Wd} {ρ : List Sl} {ta tb te : TE} {ds : List PyData}
theorem ev_reprB {b : Bool} (h : Evd K W te ρ (.bool b)) : Evd K W (tCB rReprB (tCons te tNil)) ρ (.str (if b then "True" else "False")) := fun ms B σ H a Q q => h ms B σ H a _ fun v H1 h1 x1 o1 => by
  cases o1
  exact ⟨b, rfl, q _ H1 h1 x1 (.str _)⟩
theorem ev_notB {a b : Bool} (ha : Evd K W ta ρ (.bool a)) (hb : Evd K W tb ρ (.bool b)) : Evd K W (tOp rNotB ta tb) ρ (.bool (!decide (a = b))) := ev_op ha hb fun ms H x y _ hx hy Q q => by
  cases hx
  cases hy
  exact ⟨a, b, rfl, rfl, q _ H (Same.refl H) (.bl _)⟩
theorem atI_last {d : PyData} (h : ds[ds.length - 1]? = some d) : atI ds (-1) = some d := by
  have l : ds.length - 1 < ds.length := (List.getElem?_eq_some_iff.mp h).1
  unfold atI ixN
  rw [if_neg (by decide), if_pos (by omega)]
  show ds[(-1 + (ds.length : Int)).toNat]? = some d
  rw [show (-1 + (ds.length : Int)).toNat = ds.length - 1 by omega]
  exact h
end
end Fw

/-! The frame, 13: list(range(..)), extend, while, two lists of one's own. -/
namespace Fw
open PySem L2
open PyProof.Rows (envOfC)
section
variable {X : Cx} {e a b : Expr} {te ta tb : TE} {p pos : Pos}
theorem krgA1 (hm : X.mg "range" = none) (ha : PE X a ta) (hg : X.env.kindOf "range" = some .globalImplicit := by kernel_rfl) (na : starEach [a] X.env = (false, eval a X.env) :: starEach [] X.env := by kernel_rfl) : PRg X (.Call (.Name "range" p) [a] [] pos) (tRg1 ta) := prg_1 hg hm ha na
theorem krgA2 (hm : X.mg "range" = none) (ha : PE X a ta) (hb : PE X b tb) (hg : X.env.kindOf "range" = some .globalImplicit := by kernel_rfl) (na : starEach [a, b] X.env = (false, eval a X.env) :: starEach [b] X.env := by kernel_rfl)
    (nb : starEach [b] X.env = (false, eval b X.env) :: starEach [] X.env := by kernel_rfl) (hp : (backTo pos (starEach [b] X.env)).any (·.1) = false := by kernel_rfl) : PRg X (.Call (.Name "range" p) [a, b] [] pos) (tRg2 ta tb) := prg_2 hg hm ha hb na nb hp
theorem klstRg {t : L2.St → Hp → (Int → Int → Hp → Prop) → Prop} (hm : X.mg "list" = none) (he : PRg X e t) (hc : X.calm = true := by rfl) (hg : X.env.kindOf "list" = some .globalImplicit := by kernel_rfl) (na : starEach [e] X.env = (false, eval e X.env) :: starEach [] X.env := by kernel_rfl) : PE X (.Call (.Name "list" p) [e] [] pos) (tLstRg t) := pe_listRg hc hg hm he na
end
section
variable {K : PySem.W.Frag} {W : Wd} {ms : List Addr} {B : Bs} {H H' : Hp} {ρ ρ' ρ1 : List Sl} {σ σ' : L2.St} {d e : PyData} {ds es ds1 ds2 : List PyData} {s s1 s2 : Sl} {v : V} {vs : List V} {l l1 l2 : Addr} {i j : Nat}
  {ta tb tc te tx tl ti tv tm : TE} {tt t u : TT} {wi : TI} {g : TG} {D : Ends} {ts ts' tz : TS} {Φ Φ1 Φ2 : Sl → Prop}
theorem dpa_rg (K : PySem.W.Frag) (H : Hp) (a b : Int) : DpAll K H (rgV a b) ((List.range (b - a).toNat).map fun i => PyData.int (a + (i : Nat))) := by
  have h := dpa_of_ints K H ((List.range (b - a).toNat).map fun i => a + (i : Nat))
  rw [List.map_map, List.map_map] at h
  exact h
theorem ef_rg {a b : Int} (h1 : Evd K W ta ρ (.int a)) (h2 : Evd K W tb ρ (.int b)) (ha : -1000000 ≤ a ∧ a ≤ 1000000) (hb : -1000000 ≤ b ∧ b ≤ 1000000) : EvF K W (tLstRg (tRg2 ta tb)) ρ (· = (List.range (b - a).toNat).map fun i => PyData.int (a + (i : Nat))) := fun ms B σ H g Q q =>
  h1 ms B σ H g _ fun x H1 g1 x1 o1 => h2 ms B σ H1 g1 _ fun y H2 g2 x2 o2 => by
    cases o1
    cases o2
    refine ⟨a, b, rfl, rfl, ⟨by omega, by omega, by omega, by omega, by omega⟩, fun p hp => ?_⟩
    have hp0 : H p = none := by
      have hw := (g2.fresh hp).2.2
      cases z : H p with
      | none => rfl
      | some o => rw [(x1.trans x2) p o hw z] at hp; cases hp
    exact q _ p _ _ rfl (g2.same (same_put hp)) ((x1.trans x2).trans (.of_same (same_put hp))) hp0 upd_same (dpa_rg K _ a b)
/-- l.extend(a new list) -/
theorem s_ext {Ψ : List PyData → Prop} (h : At K W ms B ρ σ H) (o : Own K W ms B l ds H) (hr : ρ[i]? = some (.raw (.ref l))) (e : EvF K W te ρ Ψ) (hz : ∀ es, Ψ es → ds.length + es.length ≤ 100000)
    (k : ∀ es H', Ψ es → At K W ms B ρ σ H' → Own K W ms B l (ds ++ es) H' → D.nx σ H') : tDrop (tBM K "list" rExtend (tVar i) (tCons te tNil)) D σ H := by
  obtain ⟨w, ew, ow⟩ := h.env.get hr (by intro q; cases q)
  obtain rfl : w = .ref l := ow
  obtain ⟨vs, el, dd⟩ := o.val
  refine ⟨_, ew, .inl ⟨rfl, _, .inl (.inl el)⟩, e ms B σ H h _ fun es p zs H1 ψ h1 x1 hp e1 o1 => ?_⟩
  have el1 := x1 l _ o.nws el
  have d1 := dpa_mono (x1.cut h.sub) _ _ dd
  have d2 := dpa_mono (cut_cons (l := p)) _ _ o1
  refine ⟨l, p, vs, zs, rfl, rfl, el1, e1, by rw [dpa_len dd, dpa_len o1]; exact le_line (hz es ψ), ?_⟩
  exact k es _ ψ (h1.write o.mem o.nws o.h0) ⟨o.mem, o.nws, o.h0, vs ++ zs, upd_same, dpa_mono (cut_put (.inl o.mem)) _ _ (dpa_app d1 d2)⟩
theorem s_while {α : Type} {R : α → List Sl} {X : α → Hp → Prop} {μ : α → Nat} {ψ : α → Bool → Prop} (p0 : α) (h : At K W ms B ρ σ H) (l0 : Le (R p0) ρ) (x0 : X p0 H)
    (tst : ∀ Hb p σ' H', At K W ms ⟨B.h0, Hb⟩ (R p) σ' H' → X p H' → ∀ Q : Bool → Hp → Prop, (∀ b H2, ψ p b → At K W ms ⟨B.h0, Hb⟩ (R p) σ' H2 → X p H2 → Q b H2) → tt σ' H' Q)
    (hs : ∀ Hb p σ' H', ψ p true → At K W ms ⟨B.h0, Hb⟩ (R p) σ' H' → X p H' → ts { D with nx := fun σ H => ∃ p', μ p' < μ p ∧ At K W ms ⟨B.h0, Hb⟩ (R p') σ H ∧ X p' H, ct := fun σ H => ∃ p', μ p' < μ p ∧ At K W ms ⟨B.h0, Hb⟩ (R p') σ H ∧ X p' H, bk := D.nx } σ' H')
    (hd : ∀ p σ' H', ψ p false → At K W ms B (R p) σ' H' → X p H' → D.nx σ' H') : tWhile tt ts D σ H := by
  refine ⟨fun m σ' H' => ∃ p, m = μ p ∧ At K W ms ⟨B.h0, H⟩ (R p) σ' H' ∧ X p H', ⟨_, p0, rfl, h.re.le l0, x0⟩, ?_⟩
  rintro m σ1 H1 ⟨p, rfl, a, x⟩
  refine tst H p σ1 H1 a x _ fun b H2 y a2 x2 => ?_
  cases b with
  | true => exact iteT ⟨fun σ H' => ∃ p', μ p' < μ p ∧ At K W ms ⟨B.h0, _⟩ (R p') σ H' ∧ X p' H', fun σ' H' ⟨p', hl, a', x'⟩ => ⟨_, hl, p', rfl, a', x'⟩, hs _ p σ1 H2 y a2 x2⟩
  | false => exact iteF (hd p σ1 H2 y (h.un a2) x2)
theorem Own.other (o : Own K W ms B l1 ds H) {u : HO} (h : l2 ∈ ms) (n : l1 ≠ l2) : Own K W ms B l1 ds (upd H l2 u) := by
  obtain ⟨vs, e, dd⟩ := o.val
  exact ⟨o.mem, o.nws, o.h0, vs, by rw [upd_ne n]; exact e, dpa_mono (cut_put (.inl h)) _ _ dd⟩
theorem dpa_erase : ∀ {ds : List PyData} {vs : List V} (n : Nat), DpAll K H vs ds → DpAll K H (vs.eraseIdx n) (ds.eraseIdx n)
  | [], _, n, h => by cases h; exact .nil
  | d :: ds, _, 0, h => by cases h with | cons _ t => exact t
  | d :: ds, _, n + 1, h => by cases h with | cons a t => exact .cons a (dpa_erase n t)
/-- f.append(l.pop(e)), two lists of one's own -/
theorem s_popApp (h : At K W ms B ρ σ H) (o1 : Own K W ms B l1 ds1 H) (o2 : Own K W ms B l2 ds2 H) (ne : l1 ≠ l2) (hr1 : ρ[i]? = some (.raw (.ref l1))) (hr2 : ρ[j]? = some (.raw (.ref l2)))
    (arg : ∀ Q : V → Hp → Prop, (∀ (n : Nat) H', n < ds2.length → At K W ms B ρ σ H' → Own K W ms B l1 ds1 H' → Own K W ms B l2 ds2 H' → Q (.int (n : Int)) H') → te σ H Q) (hz : ds1.length < 100000) (hz2 : ds2.length < 100000)
    (k : ∀ d n H', ds2[n]? = some d → At K W ms B ρ σ H' → Own K W ms B l1 (ds1 ++ [d]) H' → Own K W ms B l2 (ds2.eraseIdx n) H' → D.nx σ H') : tDrop (tBM K "list" rAppend (tVar i) (tCons (tBM K "list" rPopAt (tVar j) (tCons te tNil)) tNil)) D σ H := by
  obtain ⟨w1, ew1, ow1⟩ := h.env.get hr1 (by intro q; cases q)
  obtain rfl : w1 = .ref l1 := ow1
  obtain ⟨w2, ew2, ow2⟩ := h.env.get hr2 (by intro q; cases q)
  obtain rfl : w2 = .ref l2 := ow2
  obtain ⟨vs1, el1, _⟩ := o1.val
  obtain ⟨vs2, el2, _⟩ := o2.val
  refine ⟨_, ew1, .inl ⟨rfl, _, .inl (.inl el1)⟩, _, ew2, .inl ⟨rfl, _, .inl (.inl el2)⟩, arg _ fun n H1 hn a1 p1 p2 => ?_⟩
  obtain ⟨xs1, e1, d1⟩ := p1.val
  obtain ⟨xs2, e2, d2⟩ := p2.val
  have hl : n < xs2.length := by rw [dpa_len d2]; exact hn
  have hx : xs2[n]? = some xs2[n] := List.getElem?_eq_getElem hl
  obtain ⟨d, hd, od⟩ := dpa_get d2 hx
  refine ⟨l2, xs2, n, n, xs2[n], rfl, rfl, e2, Int.le_trans (b := 0) (by decide) (Int.natCast_nonneg n), Int.lt_trans (b := 100000) (by omega) (by decide), ?_, hx, ?_⟩
  · unfold seqIndex?
    have h0 : ¬ ((n : Int) < 0) := by omega
    simp [h0, hl]
  · have b1 := a1.write (o := .lst (xs2.eraseIdx n)) p2.mem p2.nws p2.h0
    have q1 := p1.other (u := .lst (xs2.eraseIdx n)) p2.mem ne
    have q2 : Own K W ms B l2 (ds2.eraseIdx n) (upd H1 l2 (.lst (xs2.eraseIdx n))) := ⟨p2.mem, p2.nws, p2.h0, _, upd_same, dpa_mono (cut_put (.inl p2.mem)) _ _ (dpa_erase n d2)⟩
    refine ⟨l1, xs1, xs2[n], rfl, rfl, by rw [upd_ne ne]; exact e1, Nat.lt_of_lt_of_le (by rw [dpa_len d1]; exact hz) (show 100000 ≤ sizeLine by decide), ?_⟩
    refine k d n _ hd (b1.write p1.mem p1.nws p1.h0 (nx_lst ((upd_ne ne).trans e1))) ⟨p1.mem, p1.nws, p1.h0, xs1 ++ [xs2[n]], upd_same, ?_⟩ (q2.other p1.mem (Ne.symm ne))
    exact dpa_mono ((cut_put (.inl p2.mem)).trans (cut_put (.inl p1.mem))) _ _ (dpa_snoc d1 od)
end
end Fw

/-! The frame, 14: new lists by one of two ways; sorted ints. -/
namespace Fw
open PySem L2
open PyProof.Rows (envOfC)
def insI (x : Int) : List Int → List Int
  | [] => [x]
  | y :: r => if x ≤ y then x :: y :: r else y :: insI x r
def sortI : List Int → List Int
  | [] => []
  | x :: r => insI x (sortI r)
theorem insI_perm (x : Int) : ∀ l : List Int, (insI x l).Perm (x :: l)
  | [] => .refl _
  | y :: r => by
    unfold insI
    split
    · exact .refl _
    · exact ((insI_perm x r).cons y).trans (.swap x y r)
theorem sortI_perm : ∀ l : List Int, (sortI l).Perm l
  | [] => .refl _
  | x :: r => (insI_perm x _).trans ((sortI_perm r).cons x)
theorem insI_sorted (x : Int) : ∀ {l : List Int}, l.Pairwise (· ≤ ·) → (insI x l).Pairwise (· ≤ ·)
  | [], _ => List.pairwise_singleton _ _
  | y :: r, h => by
    obtain ⟨h1, h2⟩ := List.pairwise_cons.mp h
    unfold insI
    split
    · refine List.pairwise_cons.mpr ⟨fun z hz => ?_, h⟩
      rcases List.mem_cons.mp hz with e | e
      · omega
      · have := h1 z e
        omega
    · refine List.pairwise_cons.mpr ⟨fun z hz => ?_, insI_sorted x h2⟩
      rcases List.mem_cons.mp ((insI_perm x r).mem_iff.mp hz) with e | e
      · omega
      · exact h1 z e
theorem sortI_sorted : ∀ l : List Int, (sortI l).Pairwise (· ≤ ·)
  | [] => .nil
  | x :: r => insI_sorted x (sortI_sorted r)
theorem sorted_one : ∀ {a b : List Int}, a.Perm b → a.Pairwise (· ≤ ·) → b.Pairwise (· ≤ ·) → a = b
  | [], b, h, _, _ => (List.nil_perm.mp h).symm
  | x :: a, [], h, _, _ => absurd h (by simp)
  | x :: a, y :: b, h, ha, hb => by
    obtain ⟨a1, a2⟩ := List.pairwise_cons.mp ha
    obtain ⟨b1, b2⟩ := List.pairwise_cons.mp hb
    have e : x = y := by
      have mx := h.mem_iff.mp (List.mem_cons_self (a := x) (l := a))
      have my := h.mem_iff.mpr (List.mem_cons_self (a := y) (l := b))
      have l1 : y ≤ x := by
        rcases List.mem_cons.mp mx with e | e
        · omega
        · exact b1 x e
      have l2 : x ≤ y := by
        rcases List.mem_cons.mp my with e | e
        · omega
        · exact a1 y e
      omega
    subst e
    rw [sorted_one (List.perm_cons _ |>.mp h) a2 b2]
section
variable {K : PySem.W.Frag} {W : Wd} {ρ : List Sl} {ta tb te : TE} {tt : TT} {Φ : List PyData → Prop}
theorem ef_if {b : Bool} (h : EvT K W tt ρ b) (h1 : b = true → EvF K W ta ρ Φ) (h2 : b = false → EvF K W tb ρ Φ) : EvF K W (tIf tt ta tb) ρ Φ := fun ms B σ H g Q q => h ms B σ H g _ fun H1 g1 x1 => by
  have back : ∀ {p : Addr}, H1 p = none → H p = none := fun {p} hp => by
    have hw := (g1.fresh hp).2.2
    cases z : H p with
    | none => rfl
    | some o => rw [x1 p o hw z] at hp; cases hp
  cases b with
  | true => exact iteT (h1 rfl ms B σ H1 g1 Q fun es p vs H2 φ g2 x2 hp e o => q es p vs H2 φ g2 (x1.trans x2) (back hp) e o)
  | false => exact iteF (h2 rfl ms B σ H1 g1 Q fun es p vs H2 φ g2 x2 hp e o => q es p vs H2 φ g2 (x1.trans x2) (back hp) e o)
theorem ef_sortedI {ns : List Int} (h : Evd K W te ρ (.list (ns.map .int))) : EvF K W (tCB (rSortedI K) (tCons te tNil)) ρ (· = (sortI ns).map .int) := fun ms B σ H a Q q => h ms B σ H a _ fun v H1 h1 x1 o1 => by
  cases o1 with
  | lst sx dx =>
    obtain rfl := dpa_ints dx
    refine ⟨_, ns, rfl, sql_mono cut_le sx, fun ns' p hp hs hn => ?_⟩
    have e : ns' = sortI ns := sorted_one (hp.trans (sortI_perm ns).symm) hs (sortI_sorted ns)
    subst e
    have hp0 : H p = none := by
      have hw := (h1.fresh hn).2.2
      cases z : H p with
      | none => rfl
      | some o => rw [x1 p o hw z] at hn; cases hn
    exact q _ p _ _ rfl (h1.same (same_put hn)) (x1.trans (.of_same (same_put hn))) hp0 upd_same (dpa_of_ints _ _ _)
end
end Fw

/-! A dict comprehension of two clauses without tests: {k: v for t in i for t1 in i1}. -/
namespace Dc2
open PySem PySem.Spec PyProof.Rows L2
/-- its tree -/
abbrev dc (kx vx t0 i0 t1 i1 : Expr) (scope : Scope) (pos : Pos) : Expr := .DictComp kx vx [⟨t0, i0, [], 0⟩, ⟨t1, i1, [], 0⟩] scope pos
theorem turn0 (kx vx t0 i0 t1 i1 : Expr) (scope : Scope) (pos : Pos) (it acc : Value) (env : Env) : compTurn (dc kx vx t0 i0 t1 i1 scope pos) 0 it acc env = (do
      standAt i0.pos
      match ← pyNext it with
      | none => pure (.done .next)
      | some v =>
        letOwnedTupleGo t0 it v
        assign t0 env v
        let x ← eval i1 env
        standAt i1.pos
        let x ← foldedSetIterable i1 env x
        let _ ← runOwn (.compStart (dc kx vx t0 i0 t1 i1 scope pos) 1 (← holding [x] (pyIter x)) acc env) env
        again (.compLoop (dc kx vx t0 i0 t1 i1 scope pos) 0 it acc env)) := by rfl
theorem turn1 (kx vx t0 i0 t1 i1 : Expr) (scope : Scope) (pos : Pos) (it : Value) (D : Addr) (env : Env) : compTurn (dc kx vx t0 i0 t1 i1 scope pos) 1 it (.ref D) env = (do
      standAt i1.pos
      match ← pyNext it with
      | none => pure (.done .next)
      | some v =>
        letOwnedTupleGo t1 it v
        assign t1 env v
        (do
            let kv ← eval kx env
            let vv ← holding [kv] (eval vx env)
            standAt { kx.pos with endLine := vx.pos.endLine, endCol := vx.pos.endCol }
            holding [kv, vv] (dictSet D kv vv))
        again (.compLoop (dc kx vx t0 i0 t1 i1 scope pos) 1 it (.ref D) env)) := by rfl
section
variable {prog : Program} {w : World} {A : Around} {R : Result → Shared → Prop} {s : Shared} {kx vx t0 i0 t1 i1 : Expr} {scope : Scope} {pos : Pos} {it acc : Value} {D : Addr} {env : Env}
/-- where an error goes -/
abbrev away (prog : Program) (w : World) (A : Around) (env : Env) (R : Result → Shared → Prop) : Value → Shared → Prop := notedBy (model prog w) A env fun x z => R (.error x) z
theorem run0 (hf : ∀ x, foldedSetIterable i1 env x = pure x) (I : Nat → Shared → Prop)
    (step : ∀ n z, I n z → wpAny (model prog w) A (pyNext it) (fun r z1 => match r with
      | none => R (.ok .next) z1
      | some v => wpAny (model prog w) A (letOwnedTupleGo t0 it v) (fun _ z2 => wpAny (model prog w) A (assign t0 env v) (fun _ z3 => wpAny (model prog w) A (eval i1 env) (fun x z4 => wpAny (model prog w) A (pyIter x) (fun j z5 =>
          codeAny (model prog w) A (.compStart (dc kx vx t0 i0 t1 i1 scope pos) 1 j acc env) (fun r z6 => match r with | .ok _ => ∃ m, m < n ∧ I m z6 | .error _ => False) z5)
          (away prog w A env R) z4) (away prog w A env R) z3) (away prog w A env R) z2) (away prog w A env R) z1) (away prog w A env R) z)
    (n : Nat) (h : I n s) : codeAny (model prog w) A (.compLoop (dc kx vx t0 i0 t1 i1 scope pos) 0 it acc env) R s := by
  refine codeAny_loop rfl I (fun m z hz => ?_) n h
  show wpAny _ A ((compTurn (dc kx vx t0 i0 t1 i1 scope pos) 0 it acc env).onRaise (fun x => do noteFrame x env; theTreesLotGoes x)) _ _ z
  refine wpAny_noted ?_
  rw [turn0]
  refine wpAny_bind (wpAny_standAt (wpAny_bind (wpAny_mono (step m z hz) (fun r z1 a1 => ?_) fun _ _ b => b)))
  cases r with
  | none => exact wpAny_pure a1
  | some v =>
    refine wpAny_bind (wpAny_mono a1 (fun _ z2 a2 => wpAny_bind (wpAny_mono a2 (fun _ z3 a3 => wpAny_bind (wpAny_mono a3 (fun x z4 a4 => ?_) fun _ _ b => b)) fun _ _ b => b)) fun _ _ b => b)
    refine wpAny_bind (wpAny_standAt (wpAny_bind (wpAny_of_eq (hf x) (wpAny_bind (wpAny_holding (wpAny_mono a4 (fun j z5 a5 => ?_) fun _ _ b => b))))))
    refine wpAny_bind (wpAny_runOwn ?_)
    rw [Around.mark_none]
    refine codeAny_mono a5 fun r z6 a6 => ?_
    cases r with
    | ok f =>
      first
        | exact wpAny_pure ⟨rfl, a6⟩
        | exact wpAny_bind (wpAny_pure (wpAny_pure ⟨rfl, a6⟩))
    | error x => exact a6.elim
theorem run1 (I : Nat → Shared → Prop)
    (step : ∀ n z, I n z → wpAny (model prog w) A (pyNext it) (fun r z1 => match r with
      | none => R (.ok .next) z1
      | some v => wpAny (model prog w) A (letOwnedTupleGo t1 it v) (fun _ z2 => wpAny (model prog w) A (assign t1 env v) (fun _ z3 => wpAny (model prog w) A (eval kx env) (fun a z4 => wpAny (model prog w) A (eval vx env) (fun b z5 =>
          wpAny (model prog w) A (dictSet D a b) (fun _ z6 => ∃ m, m < n ∧ I m z6) (away prog w A env R) z5) (away prog w A env R) z4) (away prog w A env R) z3) (away prog w A env R) z2) (away prog w A env R) z1) (away prog w A env R) z)
    (n : Nat) (h : I n s) : codeAny (model prog w) A (.compLoop (dc kx vx t0 i0 t1 i1 scope pos) 1 it (.ref D) env) R s := by
  refine codeAny_loop rfl I (fun m z hz => ?_) n h
  show wpAny _ A ((compTurn (dc kx vx t0 i0 t1 i1 scope pos) 1 it (.ref D) env).onRaise (fun x => do noteFrame x env; theTreesLotGoes x)) _ _ z
  refine wpAny_noted ?_
  rw [turn1]
  refine wpAny_bind (wpAny_standAt (wpAny_bind (wpAny_mono (step m z hz) (fun r z1 a1 => ?_) fun _ _ b => b)))
  cases r with
  | none => exact wpAny_pure a1
  | some v =>
    refine wpAny_bind (wpAny_mono a1 (fun _ z2 a2 => wpAny_bind (wpAny_mono a2 (fun _ z3 a3 => ?_) fun _ _ b => b)) fun _ _ b => b)
    exact wpAny_bind (wpAny_bind (wpAny_mono a3 (fun a z4 a4 => wpAny_bind (wpAny_holding (wpAny_mono a4 (fun b z5 a5 => wpAny_bind (wpAny_standAt (wpAny_holding (wpAny_mono a5 (fun _ z6 a6 => wpAny_pure ⟨rfl, a6⟩) fun _ _ c => c)))) fun _ _ c => c))) fun _ _ c => c))
/-- the second clause begins -/
theorem begin1 (h0 : codeAny (model prog w) A (.compLoop (dc kx vx t0 i0 t1 i1 scope pos) 1 it acc env) R s)
    (h : wpAny (model prog w) A (pyIter it) (fun j z => codeAny (model prog w) A (.compLoop (dc kx vx t0 i0 t1 i1 scope pos) 1 j acc env) R z) (away prog w A env R) s) :
    codeAny (model prog w) A (.compStart (dc kx vx t0 i0 t1 i1 scope pos) 1 it acc env) R s := by
  refine codeAny_of_tree ?_
  show wpAny _ _ ((compStart (dc kx vx t0 i0 t1 i1 scope pos) 1 it acc env).onRaise (fun x => do noteFrame x env; standAt theWindowsPlace)) _ _ s
  refine wpAny_notedAt ?_
  unfold compStart
  show wpAny _ _ (ask >>= _) _ _ s
  refine wpAny_bind (wpAny_askSetting (wpAny_ite ?_))
  split
  · first
      | exact wpAny_bind (wpAny_pure (wpAny_pure (And.intro rfl h0)))
      | exact wpAny_pure (And.intro rfl h0)
  · refine wpAny_bind (wpAny_rule ?_)
    show wpAny _ _ (standAt i1.pos >>= _) _ _ s
    exact wpAny_bind (wpAny_standAt (wpAny_bind (wpAny_mono h (fun j z a => wpAny_pure (And.intro rfl a)) fun _ _ b => b)))
end
section
variable {X : Cx}
/-- {k: v for t0 in i0 for t1 in i1}: D the new dict; vs all names of the block, vs1 those of the second target -/
def tDc2 (wi : TI) (g : TG) (wi1 : TI) (g1 : TG) (tk tv : TE) (vs vs1 : List Nat) : TE := fun σ H Q => wi σ H fun J H1 => ∀ D, H1 D = none → ∃ W : Nat → Nat → Hp → Prop, (∃ m, W 0 m (upd H1 D (.dK []))) ∧ ∀ i m H, W i m H →
  (J.stop i H ∧ Q (.ref D) H) ∨ (J.go i H ∧ ∃ Nx : Hp → Prop, (∀ H', Nx H' → ∃ m', m' < m ∧ W (i + 1) m' H') ∧ ∀ x H', J.yld i H x H' → g x (wipe σ vs) H' fun σ2 H2 => wipe σ2 vs = wipe σ vs ∧
    wi1 σ2 H2 fun J1 H4 => ∃ W1 : Nat → Nat → Hp → Prop, (∃ m, W1 0 m H4) ∧ ∀ j k H, W1 j k H →
      (J1.stop j H ∧ Nx H) ∨ (J1.go j H ∧ ∃ Nx1 : Hp → Prop, (∀ H', Nx1 H' → ∃ k', k' < k ∧ W1 (j + 1) k' H') ∧ ∀ x H', J1.yld j H x H' → g1 x (wipe σ2 vs1) H' fun σ3 H5 => wipe σ3 vs1 = wipe σ2 vs1 ∧
        tk σ3 H5 fun y H6 => tv σ3 H6 fun z H7 => ∃ kvs q, y = kV q ∧ H7 D = some (.dK kvs) ∧ kvs.length < sizeLine ∧ Nx1 (upd H7 D (.dK (putK kvs q z)))))
theorem pe_dc2 {kx vx t0 i0 t1 i1 : Expr} {scope : Scope} {own : List (Str × Nat)} {vs1 : List Nat} {pos : Pos} {wi wi1 : TI} {g g1 : TG} {tk tv : TE} (hc : X.calm = true) (hN : X.N.Nodup) (hi : PI X t0 i0 wi) (ok : BlkOk X.N X.env.scope scope own) (hv : ∀ i ∈ vs1, i ∈ own.map (·.2))
    (hg : ∀ (s : Shared) (H : Hp) (C : Addr) (cl : List (Str × Addr)) (fp : List Addr), PG (X.blk s H scope (compEnvC scope cl C X.env) fp) t0 g)
    (hi1 : ∀ (s : Shared) (H : Hp) (C : Addr) (cl : List (Str × Addr)) (fp : List Addr), PI (X.blk s H scope (compEnvC scope cl C X.env) fp) t1 i1 wi1)
    (hg1 : ∀ (s : Shared) (H : Hp) (C : Addr) (cl : List (Str × Addr)) (fp : List Addr), PG (X.blk s H scope (compEnvC scope cl C X.env) fp) t1 g1)
    (hk : ∀ (s : Shared) (H : Hp) (C : Addr) (cl : List (Str × Addr)) (fp : List Addr), PE (X.blk s H scope (compEnvC scope cl C X.env) fp) kx tk)
    (hw : ∀ (s : Shared) (H : Hp) (C : Addr) (cl : List (Str × Addr)) (fp : List Addr), PE (X.blk s H scope (compEnvC scope cl C X.env) fp) vx tv)
    (hs : ∀ x, foldedSetIterable i0 X.env x = pure x := by intro _; rfl) (hs1 : ∀ env x, foldedSetIterable i1 env x = pure x := by intro _ _; rfl) : PE X (dc kx vx t0 i0 t1 i1 scope pos) (tDc2 wi g wi1 g1 tk tv (own.map (·.2)) vs1) := by
  refine ⟨fun pins s σ H Q I h => ?_⟩
  rw [arm_eval_DictComp]
  have free : ∀ y ∈ scope.names, y.2 = .free → ∃ c, X.env.cells.lookup y.1 = some c := fun y hy e => (ok.free y hy e).elim (fun k => I.ok.has _ (.inl k)) fun k => I.ok.has _ (.inr k)
  refine wpAny_comprehension_free (use := none) rfl hs (closure_ok free) ok.kind (fun y hy e => by rw [ok.uniq y hy, e]) (thn (hi.run pins s σ H _ I h) fun xv sa hx => thn hx fun itv sb got => ?_)
  obtain ⟨it, fp, tn, J, H2, rfl, I2, T, b2, f2, q⟩ := got
  refine wpAny_newObj_type (newEnv_comp ?_)
  generalize eD : sb.heap.objs.size = D
  have nD : H2 D = none := I2.hok.fresh (Nat.le_of_eq eD)
  obtain ⟨W, ⟨m0, w0⟩, turn⟩ := q D nD
  generalize ec : ({ sb with heap := sb.heap.push { cls := .type "dict", data := .dict #[] } } : Shared) = sc
  have hp : sc.heap = sb.heap.push { cls := .type "dict", data := .dict #[] } := by rw [← ec]
  have I3 : Inv X pins σ (upd H2 D (.dK [])) sc := by
    rw [← ec]
    refine I2.laid (t' := sb.toks) (fun b o e => Heap.get?_push_of_some _ e) (Nat.le_of_eq eD) ?_
    rw [← eD]
    exact dk_empty sb.heap I2.big
  have foot : ∀ b ∈ fp, FpOk X pins (upd H2 D (.dK [])) b ∧ b < sc.heap.objs.size := fun b hb => by
    obtain ⟨o, e, _⟩ := T.obj _ _ b2 b hb
    have lt := Heap.lt_size e
    refine ⟨⟨?_, (f2 b hb).2⟩, by rw [hp, Heap.size_push]; exact Nat.lt_succ_of_lt lt⟩
    rw [upd_ne (by rw [← eD]; exact Nat.ne_of_lt lt)]
    exact (f2 b hb).1
  have b3 : tn 0 sc.heap := T.keep _ _ _ b2 fun b _ o e => by rw [hp]; exact Heap.get?_push_of_some _ e
  have I4 := block_start I3 ok hN foot
  have pg := hg sc (upd H2 D (.dK [])) sc.heap.objs.size (cellsFrom (sc.heap.objs.size + 1) scope.names (cloFrom X.env.cells scope.names [])) fp
  have pi1 := hi1 sc (upd H2 D (.dK [])) sc.heap.objs.size (cellsFrom (sc.heap.objs.size + 1) scope.names (cloFrom X.env.cells scope.names [])) fp
  have pg1 := hg1 sc (upd H2 D (.dK [])) sc.heap.objs.size (cellsFrom (sc.heap.objs.size + 1) scope.names (cloFrom X.env.cells scope.names [])) fp
  have pk := hk sc (upd H2 D (.dK [])) sc.heap.objs.size (cellsFrom (sc.heap.objs.size + 1) scope.names (cloFrom X.env.cells scope.names [])) fp
  have pv := hw sc (upd H2 D (.dK [])) sc.heap.objs.size (cellsFrom (sc.heap.objs.size + 1) scope.names (cloFrom X.env.cells scope.names [])) fp
  show codeAny _ _ (.compStart (dc kx vx t0 i0 t1 i1 scope pos) 0 (.ref it) (.ref D) (compEnvC scope (cellsFrom (sc.heap.objs.size + 1) scope.names (cloFrom X.env.cells scope.names [])) sc.heap.objs.size X.env)) (compPost (model X.prog X.w) X.A X.xe none (EP X pins σ Q) (.ref D) sc.heap.objs.size) { sc with heap := pushCells (sc.heap.push { cls := .type "dict", data := .dict #[] }) scope.names }
  have none0 : ∀ b ∈ fp, (upd H2 D (.dK [])) b = none := fun b hb => (foot b hb).1.1
  generalize hce : compEnvC scope (cellsFrom (sc.heap.objs.size + 1) scope.names (cloFrom X.env.cells scope.names [])) sc.heap.objs.size X.env = ce at I4 pg pi1 pg1 pk pv ⊢
  have place : ce.locals = sc.heap.objs.size := by subst hce; rfl
  generalize hH3 : upd H2 D (.dK []) = H3 at I3 I4 pg pi1 pg1 pk pv w0 none0 foot
  generalize ed : ({ sc with heap := pushCells (sc.heap.push { cls := .type "dict", data := .dict #[] }) scope.names } : Shared) = sd at I4 ⊢
  have b4 : tn 0 sd.heap := T.keep _ _ _ b3 fun b _ o e => by rw [← ed]; exact pushCells_keeps _ _ _ _ (Heap.get?_push_of_some _ e)
  -- what a turn of the outer loop hands on
  let Out : Nat → Shared → Prop := fun n z => ∃ i H', Inv (X.blk sc H3 scope ce fp) [] (wipe σ (own.map (·.2))) H' z ∧ tn i z.heap ∧ (∀ b ∈ fp, H' b = none) ∧ W i n H'
  have calm : ∀ {τ : L2.St} {H' : Hp} {z : Shared}, Inv (X.blk sc H3 scope ce fp) [] τ H' z → (∀ b ∈ fp, H' b = none) → ∀ b ∈ fp, FpOk (X.blk sc H3 scope ce fp) [] H' b := fun {τ H' z} J n b hb =>
    ⟨n b hb, (J.ok.exf b hb).1, J.ok.exfs b hb, .inl hb, fun x c e => (J.ok.exf b hb).2 x c e, fun p m => absurd (show p ∈ ([] : List (Addr × Obj)) ++ [] from m) (by simp)⟩
  have loop : codeAny (model X.prog X.w) X.A (.compLoop (dc kx vx t0 i0 t1 i1 scope pos) 0 (.ref it) (.ref D) ce) (compPost (model X.prog X.w) X.A X.xe none (EP X pins σ Q) (.ref D) sc.heap.objs.size) sd := by
    refine run0 (hs1 ce) Out ?_ m0 ⟨0, H3, I4, b4, none0, w0⟩
    rintro n z5 ⟨i, H5, I5, b5, n5, w5⟩
    rcases turn i n H5 w5 with ⟨stop, qq⟩ | ⟨go, Nx, hNx, step⟩
    · refine thnF (T.done (X.blk sc H3 scope ce fp) rfl rfl rfl hc i [] z5 _ H5 (fun _ _ => False) I5 (calm I5 n5) b5 stop) fun r z6 ⟨er, I6⟩ => ?_
      subst er
      have I7 : Inv X pins σ H5 z6 := I3.call' (ch := fp) I6.os I6.base I6.hok I6.bare fun b hb => ⟨(foot b hb).1.2.2.2.1, (foot b hb).1.2.1, (foot b hb).1.2.2.2.2.1, (foot b hb).1.2.2.2.2.2⟩
      have nC : H5 sc.heap.objs.size = none := by rw [← place]; exact I6.free
      obtain ⟨m, hn, _⟩ := I6.loc
      have hn : z6.heap.Ns ce.locals m := hn
      rw [place] at hn
      obtain ⟨f0, f1, f2, f3, f4, f5⟩ := I3.fpOk (Nat.le_refl _) nC
      exact ⟨m, hn, fun h' sv => ⟨.ref D, H5, I7.turned (t' := z6.toks) (fun b o hb e => (sv.2 b hb).trans e) f0 f1 f3 f4 f5, rfl, qq⟩⟩
    · refine thnF (T.item (X.blk sc H3 scope ce fp) rfl rfl rfl hc i [] z5 _ H5 (fun _ _ => False) I5 (calm I5 n5) b5 go) fun r z6 ⟨u, er, h6⟩ => ?_
      subst er
      refine thnF h6 fun _ z7 ⟨x, H7, I7, r7, y7, b7, n7⟩ => ?_
      refine thnF (pg.run _ z7 _ H7 x u _ (I7.pinned (calm I7 n7) (T.obj _ _ b7)) r7 (step x H7 y7)) fun _ z8 ⟨σ8, H8, I8, hw8, q8⟩ => ?_
      have keep : ∀ (j : Nat) v, (wipe σ (own.map (·.2)))[j]? = some (some v) → (wipe σ8 vs1)[j]? = some (some v) := fun j v e => by
        rw [← hw8] at e
        obtain ⟨e1, e2⟩ := wipe_some e
        rw [wipe_out fun m => e2 (hv j m)]
        exact e1
      refine thnF (pi1.run _ z8 σ8 H8 _ I8 q8) fun xv z9 hx => thnF hx fun itv z10 got => ?_
      obtain ⟨it1, fp1, tn1, J1, H10, rfl, I10, T1, b10, f10, W1, ⟨m1, w1⟩, turn1⟩ := got
      have calm1 : ∀ {H' : Hp}, (∀ b ∈ fp1, H' b = none) → ∀ b ∈ fp1, FpOk (X.blk sc H3 scope ce fp) ([] ++ pinsAt fp z7.heap) H' b := fun n b hb => ⟨n b hb, (f10 b hb).2⟩
      have inner : codeAny (model X.prog X.w) X.A (.compLoop (dc kx vx t0 i0 t1 i1 scope pos) 1 (.ref it1) (.ref D) ce) (fun r z => match r with | .ok _ => ∃ m, m < n ∧ Out m z | .error _ => False) z10 := by
        refine run1 (fun k z => ∃ j H', Inv (X.blk sc H3 scope ce fp) ([] ++ pinsAt fp z7.heap) (wipe σ8 vs1) H' z ∧ tn1 j z.heap ∧ (∀ b ∈ fp1, H' b = none) ∧ W1 j k H') ?_ m1 ⟨0, H10, I10.weak (wipe_length _ _) (fun j v e => (wipe_some e).1), b10, fun b hb => (f10 b hb).1, w1⟩
        rintro k z11 ⟨j, H11, I11, b11, n11, w11⟩
        rcases turn1 j k H11 w11 with ⟨stop1, nx⟩ | ⟨go1, Nx1, hNx1, step1⟩
        · refine thnF (T1.done (X.blk sc H3 scope ce fp) rfl rfl rfl hc j _ z11 (wipe σ8 vs1) H11 (fun _ _ => False) I11 (calm1 n11) b11 stop1) fun r z12 ⟨er, I12⟩ => ?_
          subst er
          obtain ⟨m2, lt, w2⟩ := hNx H11 nx
          have stays : ∀ b ∈ fp, ∀ o, z7.heap.get? b = some o → z12.heap.get? b = some o ∧ H11 b = none := fun b hb o e =>
            let v := I12.pin (b, o) (List.mem_append_right _ (List.mem_append_right _ (mem_pinsAt hb e)))
            ⟨v.1, v.2.1⟩
          refine ⟨m2, lt, i + 1, H11, (I12.unpinned (pins := [])).weak (by rw [← hw8, wipe_length, wipe_length]) keep, T.keep _ _ _ b7 fun b hb o e => (stays b hb o e).1, fun b hb => ?_, w2⟩
          obtain ⟨o, e, _⟩ := T.obj _ _ b7 b hb
          exact (stays b hb o e).2
        · refine thnF (T1.item (X.blk sc H3 scope ce fp) rfl rfl rfl hc j _ z11 (wipe σ8 vs1) H11 (fun _ _ => False) I11 (calm1 n11) b11 go1) fun r z12 ⟨u1, er, h12⟩ => ?_
          subst er
          refine thnF h12 fun _ z13 ⟨x1, H13, I13, r13, y13, b13, n13⟩ => ?_
          refine thnF (pg1.run _ z13 (wipe σ8 vs1) H13 x1 u1 _ (I13.pinned (calm1 n13) (T1.obj _ _ b13)) r13 (step1 x1 H13 y13)) fun _ z14 ⟨σ14, H14, I14, hw14, q14⟩ => ?_
          refine thnF (pk.run _ z14 σ14 H14 _ I14 q14) fun a z15 ⟨ya, H15, I15, r15, q15⟩ => ?_
          refine thnF (pv.run _ z15 σ14 H15 _ I15 q15) fun b z16 ⟨yb, H16, I16, r16, kvs, key, ek, hD, hz, nx⟩ => ?_
          subst ek
          refine d_dictSet (X := X.blk sc H3 scope ce fp) I16 hD hz r15 r16 fun z17 I17 => ?_
          obtain ⟨m2, lt, w2⟩ := hNx1 _ nx
          have stays : ∀ b ∈ fp1, ∀ o, z13.heap.get? b = some o → z17.heap.get? b = some o ∧ (upd H16 D (.dK (putK kvs key yb))) b = none := fun b hb o e =>
            let v := I17.pin (b, o) (List.mem_append_right _ (List.mem_append_right _ (mem_pinsAt hb e)))
            ⟨v.1, v.2.1⟩
          refine ⟨m2, lt, j + 1, _, I17.unpinned.weak (by rw [← hw14, wipe_length]) (fun j v e => by rw [← hw14] at e; exact (wipe_some e).1), T1.keep _ _ _ b13 fun b hb o e => (stays b hb o e).1, fun b hb => ?_, w2⟩
          obtain ⟨o, e, _⟩ := T1.obj _ _ b13 b hb
          exact (stays b hb o e).2
      exact begin1 inner (T1.self X.A 0 _ _ _ b10 inner)
  exact codeAny_compStart_dict loop (T.self X.A 0 _ _ _ b4 loop)
end
end Dc2

/-! sorted(d) of a dict with int keys, any number of them. -/
namespace Dc2
open PySem PySem.Spec PyProof.Rows L2
section
variable {X : Cx}
def rSortedDK : List V → Hp → VK → Prop := fun xs H Q => ∃ (a : Addr) (kvs : List (Key × V)) (ks : List Int), xs = [.ref a] ∧ Rd H a (.dK kvs) ∧ kvs.map (·.1) = ks.map Sum.inl ∧
  ∀ (ys : List Int) (p : Addr), ys.Perm ks → ys.Pairwise (· ≤ ·) → H p = none → Q (.ref p) (upd H p (.lst (ys.map V.int)))
theorem cr_sortedDK (calm : X.calm = true) : CallR X (.builtin "sorted") rSortedDK := by
  intro pins s σ H xs us Q I r ⟨a, kvs, ks, ex, hd, hk, q⟩
  subst ex
  obtain ⟨u, eu, ru⟩ := vals1 r
  subst eu
  cases ru
  obtain ⟨z, lo, vs, rel, dd⟩ := dk_rd I.hok hd
  obtain ⟨ep, at_⟩ := dd.dictAt
  have keys : vs.map (·.1) = ks.map Sum.inl := rel.keys.symm.trans hk
  have ln : vs.length = ks.length := by simpa using congrArg List.length keys
  have lz : vs.length ≤ sizeLine := by rw [← rel.length]; exact z
  refine Calls.call_function_entry (PyProof.Rows.kind_sorted) PyProof.Rows.plain_sorted PyProof.Rows.entry_sorted (PyProof.Rows.args_sorted1 _) ?_
  unfold Builtin.«sorted»
  refine wpAny_bind (m := checkCount "sorted" 1 1 _) (wpAny_pure ?_)
  refine wpAny_bind (PySem.W.kdu_collect (A := X.A.in1) (PySem.W.kdl_dict (knd := mixKind X.prog X.w) (kvs := vs) (ep := ep) lo) (I.ok.hd calm) at_ lz fun h1 tk acc keep got => ?_)
  have la : acc.toList.length = ks.length := by rw [Array.length_toList, got.1, ln]
  have hI : IntsAre acc.toList ks := ints_each la fun j v e => by
    obtain ⟨k, x, e1, e2⟩ := got.2 j v (by rw [← Array.getElem?_toList]; exact e)
    have e3 : (vs.map (·.1))[j]? = some k := by rw [List.getElem?_map, e1]; rfl
    rw [keys, List.getElem?_map] at e3
    cases e4 : ks[j]? with
    | none => rw [e4] at e3; cases e3
    | some y =>
      rw [e4] at e3
      obtain rfl : Sum.inl y = k := Option.some.inj e3
      rcases keyIs_shape (show keyIs (Sum.inl y) v = true from e2) with ⟨i, t, ek, ev⟩ | ⟨zz, t, ek, ev⟩
      · cases ek
        exact ⟨y, t, rfl, ev⟩
      · cases ek
  have I1 : Inv X pins σ H { s with heap := h1, toks := tk } := I.kept keep
  have lz2 : acc.toList.length ≤ sizeLine := by rw [la, ← ln]; exact lz
  refine wpAny_bind (wpAny_newList ?_ lz2)
  have there : (h1.push (seqObj "list" acc.toList.toArray 0)).get? h1.objs.size = some (seqObj "list" acc.toList.toArray 0) := Heap.get?_push_size _ rfl
  show wpAny _ _ _ _ _ { s with heap := h1.push (seqObj "list" acc.toList.toArray 0), toks := tk }
  refine wpAny_bind (wpAny_holding (wpAny_call_entry PyProof.Rows.slot_list_sort ⟨_, there, rfl⟩ PyProof.Rows.entry_list_sort
    (SrtO.list_sort_ord (s := { s with heap := h1.push (seqObj "list" acc.toList.toArray 0), toks := tk }) SrtO.swo_int there lz2 (fun two => SrtO.ints_sortable hI two) fun out hs hb => ⟨_, rfl, ?_⟩) (PyProof.Rows.args_list_sort _)))
  obtain ⟨k1, k2, k3⟩ := SrtO.ints_out hI hs hb
  obtain ⟨e', he'⟩ := PyProof.Rows.sortedHeap_at (vs := acc.toList) (out := out.toArray) there
  have lo2 : ((out.map SrtO.iv).map V.int).length ≤ sizeLine := by
    rw [List.length_map, k2.length_eq, ← ln]
    exact lz
  refine wpAny_pure ⟨_, rfl, .ref h1.objs.size, upd H h1.objs.size (.lst ((out.map SrtO.iv).map V.int)), I1.laid (t' := tk) (fun b u e => ?_) (Nat.le_refl _) (show ObjOk X.prog X.w _ _ _ (.lst ((out.map SrtO.iv).map V.int)) from ⟨lo2, out, e', vals_of_ints k1, he'⟩), rfl, q _ _ k2 k3 (I1.hok.fresh (Nat.le_refl _))⟩
  have hb : b < h1.objs.size := Heap.lt_size e
  rw [PyProof.Rows.sortedHeap_old (Nat.ne_of_lt hb) (by rw [size_push']; exact Nat.lt_succ_of_lt hb)]
  exact Heap.get?_push_of_some _ e
end
end Dc2

/-! The frame, 15: dicts made by two walks; sorted of their keys. -/
namespace Fw
open PySem L2
open PyProof.Rows (envOfC)
/-- a loop by an invariant, whatever a turn is -/
theorem loop_by {J : It} {n : Nat} {G : Hp → Prop} {Y : Nat → Hp → V → Hp → Prop} (w : Walk J n G Y) {H0 : Hp} {Qd : Hp → Prop} {T : (Hp → Prop) → V → Hp → Prop} (Pv : Nat → Hp → Prop) (h0 : Pv 0 H0) (hG : ∀ i H, i ≤ n → Pv i H → G H)
    (hs : ∀ i x H H', i < n → Pv i H → Y i H x H' → T (Pv (i + 1)) x H') (hd : ∀ H, Pv n H → Qd H) :
    ∃ W : Nat → Nat → Hp → Prop, (∃ m, W 0 m H0) ∧ ∀ i m H, W i m H → (J.stop i H ∧ Qd H) ∨ (J.go i H ∧ ∃ Nx : Hp → Prop, (∀ H', Nx H' → ∃ m', m' < m ∧ W (i + 1) m' H') ∧ ∀ x H', J.yld i H x H' → T Nx x H') := by
  refine ⟨fun i m H => m = n - i ∧ i ≤ n ∧ Pv i H, ⟨n, by simp, Nat.zero_le _, h0⟩, ?_⟩
  rintro i m H ⟨rfl, hi, p⟩
  have q := hG i H hi p
  by_cases lt : i < n
  · exact .inr ⟨w.goes i H lt q, Pv (i + 1), fun H' p' => ⟨n - (i + 1), by omega, rfl, lt, p'⟩, fun x H' y => hs i x H H' lt p (w.yields i H x H' lt q y)⟩
  · obtain rfl : i = n := by omega
    exact .inl ⟨w.stops H q, hd H p⟩
/-- each once, in the order in which they came -/
def ddup (l : List Int) : List Int := l.foldl (fun a x => if x ∈ a then a else a ++ [x]) []
theorem ddup_snoc (l : List Int) (x : Int) : ddup (l ++ [x]) = if x ∈ ddup l then ddup l else ddup l ++ [x] := by
  unfold ddup
  rw [List.foldl_append]
  rfl
theorem ddup_mem (l : List Int) : ∀ y, y ∈ ddup l ↔ y ∈ l := by
  have h : ∀ (l acc : List Int) y, y ∈ l.foldl (fun a x => if x ∈ a then a else a ++ [x]) acc ↔ y ∈ acc ∨ y ∈ l := fun l => by
    induction l with
    | nil => intro acc y; simp
    | cons x l ih =>
      intro acc y
      rw [List.foldl_cons, ih]
      split
      · rename_i hx
        rw [List.mem_cons]
        refine ⟨fun q => q.elim .inl fun q => .inr (.inr q), fun q => q.elim .inl fun q => q.elim (fun e => .inl (by rw [e]; exact hx)) .inr⟩
      · rw [List.mem_append, List.mem_singleton, List.mem_cons, or_assoc]
  intro y
  rw [ddup, h]
  simp
theorem put_keys {kvs : List (Key × V)} {ks : List Int} {x : Int} {v : V} (h : kvs.map (·.1) = ks.map Sum.inl) : (putK kvs (.inl x) v).map (·.1) = (if x ∈ ks then ks else ks ++ [x]).map Sum.inl := by
  have e : (kvs.any fun kv => decide (kv.1 = (.inl x : Key))) = decide (x ∈ ks) := by
    have e1 : (kvs.any fun kv => decide (kv.1 = (.inl x : Key))) = (kvs.map (·.1)).any fun k => decide (k = (.inl x : Key)) := by rw [List.any_map]; rfl
    rw [e1, h, List.any_map, Bool.eq_iff_iff, decide_eq_true_eq, List.any_eq_true]
    refine ⟨fun ⟨y, hy, q⟩ => ?_, fun hx => ⟨x, hx, by simp⟩⟩
    have q2 : y = x := by simpa using q
    rw [← q2]
    exact hy
  unfold putK
  rw [e]
  by_cases c : x ∈ ks
  · rw [if_pos (decide_eq_true c), if_pos c, List.map_map, ← h]
    refine List.map_congr_left fun kv _ => ?_
    show (if kv.1 = Sum.inl x then (kv.1, v) else kv).1 = kv.1
    split <;> rfl
  · rw [if_neg (by rw [decide_eq_false c]; decide), if_neg c, List.map_append, List.map_append, h]
    rfl
section
variable {K : PySem.W.Frag} {ms : List Addr} {B : Bs} {H H' : Hp} {ρ : List Sl} {σ : L2.St} {tl1 tl2 tk tv te : TE} {i j : Nat}
theorem ddup_len : ∀ l : List Int, (ddup l).length ≤ l.length := fun l => by
  have h : ∀ (l acc : List Int), (l.foldl (fun a x => if x ∈ a then a else a ++ [x]) acc).length ≤ acc.length + l.length := fun l => by
    induction l with
    | nil => intro acc; simp
    | cons x l ih =>
      intro acc
      rw [List.foldl_cons]
      rw [List.length_cons]
      by_cases c : x ∈ acc
      · rw [if_pos c]
        have := ih acc
        omega
      · rw [if_neg c]
        have := ih (acc ++ [x])
        rw [List.length_append, List.length_singleton] at this
        omega
  have := h l []
  simpa [ddup] using this
/-- {k: v for x in l1 for y in l2}, ints: the keys -/
theorem ed_dc2 {xs ys : List Int} {f : Int → Int → Int} {dv : Int → Int → PyData} (h : At K W0 ms B ρ σ H) (hz : xs.length * ys.length ≤ 1000000)
    (e1 : Evd K W0 tl1 ρ (.list (xs.map .int))) (e2 : ∀ x ∈ xs, Evd K W0 tl2 ((wipeR ρ [i, j]).set i (.dat (.int x))) (.list (ys.map .int)))
    (ek : ∀ x ∈ xs, ∀ y ∈ ys, Evd K W0 tk ((wipeR ((wipeR ρ [i, j]).set i (.dat (.int x))) [j]).set j (.dat (.int y))) (.int (f x y)))
    (ev : ∀ x ∈ xs, ∀ y ∈ ys, Evd K W0 tv ((wipeR ((wipeR ρ [i, j]).set i (.dat (.int x))) [j]).set j (.dat (.int y))) (dv x y)) {Q : VK}
    (q : ∀ p kvs H', At K W0 ms B ρ σ H' → XW [] H H' → H p = none → H' p = some (.dK kvs) → kvs.map (·.1) = (ddup (xs.flatMap fun x => ys.map (f x))).map Sum.inl → Q (.ref p) H') :
    Dc2.tDc2 (iList K tl1) (gName i) (iList K tl2) (gName j) tk tv [i, j] [j] σ H Q := by
  refine src_list e1 ms B σ H h _ fun J H1 h1 x1 stm => ?_
  obtain ⟨G, Y, wk, st⟩ := stm
  intro D nD
  have bx : ∀ {x : Int} {l : List Int} {k : Nat}, l[k]? = some x → x ∈ l := fun h => List.mem_of_getElem? h
  have a0 := (h1.base.own (o := .dK []) nD)
  have n0 : H D = none := by
    cases z : H D with
    | none => rfl
    | some o => rw [x1 D o (by intro z; cases z) z] at nD; cases nD
  have fl : ∀ k x, xs[k]? = some x → (xs.take (k + 1)).flatMap (fun x => ys.map (f x)) = (xs.take k).flatMap (fun x => ys.map (f x)) ++ ys.map (f x) := fun k x e => by rw [take_more e, List.flatMap_append]; simp
  have small : ∀ k x l, xs[k]? = some x → ((xs.take k).flatMap (fun x => ys.map (f x)) ++ (ys.take l).map (f x)).length < sizeLine := fun k x l e => by
    have hk := (List.getElem?_eq_some_iff.mp e).1
    have h2 : ∀ zs : List Int, (zs.flatMap (fun x => ys.map (f x))).length = zs.length * ys.length := fun zs => by
      induction zs with
      | nil => simp
      | cons z zs ih => rw [List.flatMap_cons, List.length_append, ih, List.length_map, List.length_cons, Nat.succ_mul]; omega
    rw [List.length_append, h2, List.length_map, List.length_take, List.length_take]
    have h3 : min k xs.length * ys.length ≤ xs.length * ys.length := Nat.mul_le_mul_right _ (Nat.min_le_right _ _)
    have h4 : ys.length ≤ xs.length * ys.length := Nat.le_mul_of_pos_left _ (by omega)
    exact Nat.lt_of_le_of_lt (show _ ≤ 2000000 by omega) (show 2000000 < sizeLine by decide)
  have xsl : (xs.map PyData.int).length = xs.length := List.length_map _
  refine loop_by wk (fun k H' => At K W0 (D :: ms) ⟨H1, H1⟩ (wipeR ρ [i, j]) (L2.wipe σ [i, j]) H' ∧ ∃ kvs, H' D = some (.dK kvs) ∧ kvs.map (·.1) = (ddup ((xs.take k).flatMap fun x => ys.map (f x))).map Sum.inl)
    ⟨a0.wipe _, [], upd_same, rfl⟩ (fun k H' _ ⟨a, _⟩ => (st (D :: ms) H' ((cut_new nD).trans a.st)).1) (fun k v H' H'' lt ⟨a, kvs, hD, hk⟩ y => ?_) fun H' ⟨a, kvs, hD, hk⟩ => ?_
  · obtain ⟨sm, hd⟩ := (st (D :: ms) H' ((cut_new nD).trans a.st)).2 k v H'' a.live y
    rw [xsl] at lt
    have ex : xs[k]? = some xs[k] := List.getElem?_eq_getElem lt
    generalize xs[k] = x at ex
    have dv1 := hd (.int x) (by rw [List.getElem?_map, ex]; rfl)
    have a1 := a.same sm
    have hD1 := sm _ _ hD
    have a2 := (a1.re.set (s := .dat (.int x)) dv1 i)
    refine ⟨?_, ?_⟩
    · exact wipe_diff (Diff.set _ i _) (by simp)
    refine src_list (e2 x (bx ex)) (D :: ms) ⟨H1, H''⟩ _ H'' a2 _ fun J1 H4 h4 x4 stm1 => ?_
    obtain ⟨G1, Y1, wk1, st1⟩ := stm1
    have hD4 := x4 D _ (by intro z; cases z) hD1
    refine loop_by wk1 (fun l H5 => At K W0 (D :: ms) ⟨H1, H''⟩ (wipeR ((wipeR ρ [i, j]).set i (.dat (.int x))) [j]) (L2.wipe ((L2.wipe σ [i, j]).set i (some v)) [j]) H5 ∧ Same (cut (D :: ms) H4) (cut (D :: ms) H5) ∧ ∃ kvs, H5 D = some (.dK kvs) ∧ kvs.map (·.1) = (ddup ((xs.take k).flatMap (fun x => ys.map (f x)) ++ (ys.take l).map (f x))).map Sum.inl)
      ⟨h4.wipe _, Same.refl _, kvs, hD4, by simpa using hk⟩ (fun l H5 _ ⟨b, s5, _⟩ => (st1 (D :: ms) H5 s5).1) (fun l v1 H5 H6 lt1 ⟨b, s5, kv5, hD5, hk5⟩ y1 => ?_) fun H5 ⟨b, s5, kv5, hD5, hk5⟩ => ?_
    · obtain ⟨sm1, hd1⟩ := (st1 (D :: ms) H5 s5).2 l v1 H6 b.live y1
      rw [List.length_map] at lt1
      have ey : ys[l]? = some ys[l] := List.getElem?_eq_getElem lt1
      generalize ys[l] = yv at ey
      have dv2 := hd1 (.int yv) (by rw [List.getElem?_map, ey]; rfl)
      have b1 := (b.same sm1).set (s := .dat (.int yv)) dv2 j
      refine ⟨wipe_diff (Diff.set _ j _) (by simp), ek x (bx ex) yv (bx ey) (D :: ms) _ _ H6 b1 _ fun kk H7 b7 x7 o7 => ev x (bx ex) yv (bx ey) (D :: ms) _ _ H7 b7 _ fun vv H8 b8 x8 o8 => ?_⟩
      cases o7
      have hD8 := x8 D _ (by intro z; cases z) (x7 D _ (by intro z; cases z) (sm1 _ _ hD5))
      have c0 := cut_put (p := D) (o := .dK (putK kv5 (.inl (f x yv)) vv)) (ms := D :: ms) (H := H8) (.inl List.mem_cons_self)
      refine ⟨kv5, .inl (f x yv), rfl, hD8, ?_, ?_⟩
      · have e := congrArg List.length hk5
        rw [List.length_map, List.length_map] at e
        rw [e]
        exact Nat.lt_of_le_of_lt (ddup_len _) (small k x l ex)
      · have sm2 := ((x7.trans x8).cut (ms := D :: ms) (fun a z => by cases z))
        have sm1' : Same (cut (D :: ms) H5) (cut (D :: ms) H6) := (XW.of_same (ws := []) sm1).cut (fun a z => by cases z)
        refine ⟨⟨b8.sub, b8.live.upd, (b.env.mono (sm1'.trans sm2)).mono c0, trivial, b8.xw.put (by exact nD), b8.st.trans c0, trivial⟩, ((s5.trans sm1').trans sm2).trans c0, _, upd_same, ?_⟩
        rw [put_keys hk5, take_more ey, List.map_append, ← List.append_assoc, List.map_singleton, ddup_snoc]
    · have l2 : (ys.map PyData.int).length = ys.length := List.length_map _
      rw [l2, List.take_length] at hk5
      refine ⟨⟨b.sub, b.live, a.env.mono (((XW.of_same (ws := []) sm).cut (ms := D :: ms) (fun a z => by cases z)).trans b.st), trivial, b.xw, (a.st.trans ((XW.of_same (ws := []) sm).cut (ms := D :: ms) (fun a z => by cases z))).trans b.st, trivial⟩, kv5, hD5, ?_⟩
      rw [fl k x ex]
      exact hk5
  · rw [xsl, List.take_length] at hk
    refine q D kvs H' ?_ (x1.trans a.xw) n0 hD hk
    have m1 : Same (cut ms H1) (cut ms H') := ((cut_new nD).trans a.st).trans cut_cons
    exact ⟨fun b z => (by cases z), fun b z => a.live b (List.mem_cons_of_mem _ z), h1.env.mono m1, trivial, h1.xw.trans a.xw, h1.st.trans m1, trivial⟩
end
end Fw

/-! The frame, 16: comprehensions over one of several lists. -/
namespace Fw
open PySem L2
open PyProof.Rows (envOfC)
section
variable {K : PySem.W.Frag} {W : Wd} {ms : List Addr} {B : Bs} {H H' : Hp} {ρ ρ' ρ1 : List Sl} {σ σ' : St} {d : PyData} {s : Sl} {tl te ta : TE} {tt : TT} {wi : TI} {g : TG}
theorem ef_lcN {α : Type} {Ψ : List PyData → Prop} {Ψ' : List α → Prop} {enc : α → PyData} {p : α → Bool} {Φ : α → PyData → Prop} {vs : List Nat} {S : α → List Sl} (sr : SrcN K W wi ρ Ψ) (dec : ∀ ds, Ψ ds → ∃ xs, ds = xs.map enc ∧ Ψ' xs) (hz : ∀ xs, Ψ' xs → xs.length ≤ 16000000)
    (tg : ∀ xs, Ψ' xs → ∀ x ∈ xs, ∃ js, Tg K W g js (enc x) (wipeR ρ vs) (S x) ∧ ∀ j ∈ js, j ∈ vs) (ht : ∀ xs, Ψ' xs → ∀ x ∈ xs, EvT K W tt (S x) (p x)) (he : ∀ xs, Ψ' xs → ∀ x ∈ xs, p x = true → En K W te (S x) fun s => ∃ d, s = .dat d ∧ Φ x d) :
    EvF K W (tLc wi g tt te vs) ρ fun es => ∃ xs, Ψ' xs ∧ Paired Φ (xs.filter p) es := fun ms B σ H_ a Q q => sr ms B σ H_ a _ fun ds J H1 ψ h1 x1 stm => by
  obtain ⟨xs, rfl, ψ'⟩ := dec ds ψ
  obtain ⟨G, Y, wk, st⟩ := stm
  intro Dl hD
  obtain ⟨_, hm, hw⟩ := h1.fresh hD
  have data : ∀ {i : Nat} {H : Hp}, LcI K W ms H1 (wipeR ρ vs) (wipe σ vs) Dl (fun i es => Paired Φ ((xs.take i).filter p) es) i H → Same (cut ms H1) (cut (Dl :: ms) H) := fun {i H} l => (cut_new hD).trans l.here.st
  refine lc_it wk (LcI K W ms H1 (wipeR ρ vs) (wipe σ vs) Dl fun i es => Paired Φ ((xs.take i).filter p) es) ?_ (fun i H _ l => (st _ H (data l)).1) (fun i x H H' hi l y => ?_) fun H l => ?_
  · exact ⟨(h1.base.own hD).wipe vs, [], [], upd_same, .nil, Nat.le_refl _, .nil⟩
  · obtain ⟨s, hd⟩ := (st _ H (data l)).2 i x H' l.here.live y
    have hi' : i < xs.length := by rw [List.length_map] at hi; exact hi
    have hx : xs[i]? = some xs[i] := List.getElem?_eq_getElem hi'
    have hmem : xs[i] ∈ xs := List.getElem_mem hi'
    have o := hd (enc xs[i]) (by rw [List.getElem?_map, hx]; rfl)
    have l' := l.same s
    obtain ⟨js, tj, sub⟩ := tg xs ψ' _ hmem
    refine tj _ _ _ _ x l'.here o _ fun σ2 h2 df => ⟨wipe_diff df sub, ?_⟩
    refine lc_turn l' hD hw (by have := hz xs ψ'; omega) h2 (ht xs ψ' _ hmem) (he xs ψ' _ hmem) (fun hb es d ψ φ => ?_) fun hb es ψ => ?_
    · rw [take_more hx, List.filter_append, List.filter_cons_of_pos hb]
      exact ψ.snoc φ
    · rw [take_more hx, List.filter_append, List.filter_cons_of_neg (by rw [hb]; decide)]
      show Paired Φ (_ ++ []) es
      rw [List.append_nil]
      exact ψ
  · obtain ⟨acc, es, e1, e2, e3, e4⟩ := l.acc
    rw [List.length_map, List.take_length] at e4
    refine q es Dl acc H ⟨xs, ψ', e4⟩ (h1.back l.here rfl fun a z => List.mem_cons_of_mem _ z) (x1.trans l.here.xw) ?_ e1 e2
    cases q : H_ Dl with
    | none => rfl
    | some o => rw [x1 Dl o hw q] at hD; cases hD
/-- list(range(a, b)), a drawn -/
theorem en_rg {tb : TE} {Ψ : Int → Prop} {b : Int} (h1 : En K W ta ρ (IsI Ψ)) (h2 : Evd K W tb ρ (.int b)) (ha : ∀ a, Ψ a → -1000000 ≤ a ∧ a ≤ 1000000) (hb : -1000000 ≤ b ∧ b ≤ 1000000) :
    En K W (tLstRg (tRg2 ta tb)) ρ (IsD fun d => ∃ ds, d = .list ds ∧ ∃ a, Ψ a ∧ ds = (List.range (b - a).toNat).map fun i => PyData.int (a + (i : Nat))) := fun ms B σ H g Q q =>
  h1 ms B σ H g _ fun s x H1 φ g1 x1 o1 => h2 ms B σ H1 g1 _ fun y H2 g2 x2 o2 => by
    obtain ⟨a, rfl, ψ⟩ := φ
    cases o1
    cases o2
    have h0 := ha a ψ
    refine ⟨a, b, rfl, rfl, ⟨by omega, by omega, by omega, by omega, by omega⟩, fun p hp => ?_⟩
    exact q (.dat (.list _)) _ _ ⟨_, rfl, _, rfl, a, ψ, rfl⟩ (g2.same (same_put hp)) ((x1.trans x2).trans (.of_same (same_put hp))) (Sl.new_lst g2.live hp (dpa_rg K _ a b))
end
end Fw

/-! The frame, 17: an int or None shown; lists taken apart; slices and sums of any tuples; tests of several ways. -/
namespace Fw
open PySem L2
open PyProof.Rows (envOfC)
def rReprO : List V → Hp → VK → Prop := fun xs H Q => (∃ i : Int, xs = [.int i] ∧ i.natAbs.log2 < 1920 ∧ Q (.str (toString i)) H) ∨ (xs = [.non] ∧ Q (.str "None") H)
theorem cr_reprO {X : Cx} : CallR X (.builtin "repr") rReprO := by
  intro pins s σ H xs us Q I r h
  rcases h with h | ⟨e, q⟩
  · exact SkE.call_repr_int pins s σ H xs us Q I r h
  · subst e
    obtain ⟨u, rfl, ru⟩ := vals1 r
    obtain rfl : u = Value.none := ru
    exact PySem.P.repr_of_none ⟨.str _, H, I.tok _, ⟨_, rfl⟩, q⟩
section
variable {X : Cx} {pos : Pos} {es : List Expr}
theorem klt {k n : Nat} {u : TGs} (hc : X.calm = true) (h : PGs X es u) (hn : (assignEach es X.env).length = n := by kernel_rfl) (hs : (assignEach es X.env).findIdx? (·.1) = none := by kernel_rfl) : PG X (.Tuple es k pos) (gLst X.K n u) := pg_lst hc h hn hs
end
section
variable {K : PySem.W.Frag} {W : Wd} {ms : List Addr} {B : Bs} {H H' : Hp} {ρ ρ' ρ1 : List Sl} {σ σ' : L2.St} {d e : PyData} {ds es : List PyData} {s s1 s2 : Sl} {v : V} {vs : List V} {l : Addr} {i : Nat}
  {ta tb tc te tx tl ti tv tm : TE} {tt t u : TT} {wi : TI} {g : TG} {gs : TGs} {D : Ends} {ts ts' tz : TS} {Φ Φ1 Φ2 : Sl → Prop}
def oS : PyData → Str
  | .int i => Str.ofString (toString i)
  | _ => "None"
def IntO (d : PyData) : Prop := d = .none ∨ ∃ i : Int, d = .int i ∧ i.natAbs < 2 ^ 200
theorem ev_reprO (h : Evd K W te ρ d) (hd : IntO d) : Evd K W (tCB rReprO (tCons te tNil)) ρ (.str (oS d)) := fun ms B σ H a Q q => h ms B σ H a _ fun v H1 h1 x1 o1 => by
  rcases hd with rfl | ⟨i, rfl, hi⟩
  · cases o1
    exact .inr ⟨rfl, q _ H1 h1 x1 (.str _)⟩
  · cases o1
    refine .inl ⟨i, rfl, ?_, q _ H1 h1 x1 (.str _)⟩
    by_cases z : i.natAbs = 0
    · rw [z]; decide
    · exact (Nat.log2_lt z).mpr (Nat.lt_of_lt_of_le hi (Nat.pow_le_pow_right (by decide) (by decide)))
/-- repr(a) != repr(b), of one thing, an int or None -/
theorem et_sameO (ha : Evd K W ta ρ d) (hb : Evd K W tb ρ d) (hd : IntO d) : EvT K W (tTest (tOp rNe (tCB rReprO (tCons ta tNil)) (tCB rReprO (tCons tb tNil)))) ρ false := et_eq (et_test (ev_neS (ev_reprO ha hd) (ev_reprO hb hd))) (by simp)
theorem tg_lst {n : Nat} {js : List Nat} (h : Tgs K W gs js ds ρ ρ') (hn : ds.length = n) : Tg K W (gLst K n gs) js (.list ds) ρ ρ' := fun ms B σ H v a o Q q => by
  cases o with
  | lst hs ha => exact ⟨_, _, rfl, sql_mono cut_le hs, by rw [dpa_len ha]; exact hn, h ms B σ H _ a ha Q q⟩
theorem s_tgtN {P : PyData → Prop} (h : At K W ms B ρ σ H) (e : En K W te ρ (IsD P)) (k : ∀ d, P d → ∃ js ρ', Tg K W g js d ρ ρ' ∧ ∀ σ' H', At K W ms B ρ' σ' H' → D.nx σ' H') : tAsg te g D σ H := e ms B σ H h _ fun s v H1 φ h1 x1 o1 => by
  obtain ⟨d, rfl, p⟩ := φ
  obtain ⟨js, ρ', tj, kk⟩ := k d p
  exact tj ms B σ H1 v h1 o1 _ fun σ' h' _ => kk σ' H1 h'
theorem q_tgtN {P : PyData → Prop} (h : At K W ms B ρ σ H) (e : En K W te ρ (IsD P)) (k : ∀ d, P d → ∃ js ρ', Tg K W g js d ρ ρ' ∧ ∀ σ' H', At K W ms B ρ' σ' H' → tz D σ' H') : tSeq (tAsg te g) tz D σ H := s_tgtN (D := { D with nx := tz D }) h e k
theorem q_whenN {Ψ : Bool → Prop} (h : At K W ms B ρ σ H) (e : EnT K W tt ρ Ψ) (k1 : Ψ true → ∀ H', At K W ms B ρ σ H' → ts { D with nx := tz D } σ H') (k2 : Ψ false → ∀ H', At K W ms B ρ σ H' → tz D σ H') : tSeq (tIfS tt ts tNext) tz D σ H := s_ifN (D := { D with nx := tz D }) h e k1 k2
theorem q_ifN {Ψ : Bool → Prop} (h : At K W ms B ρ σ H) (e : EnT K W tt ρ Ψ) (k1 : Ψ true → ∀ H', At K W ms B ρ σ H' → ts { D with nx := tz D } σ H') (k2 : Ψ false → ∀ H', At K W ms B ρ σ H' → ts' { D with nx := tz D } σ H') : tSeq (tIfS tt ts ts') tz D σ H := s_ifN (D := { D with nx := tz D }) h e k1 k2
theorem cut_nat (xs : List V) (j : Nat) : cutV xs none (some (j : Int)) = xs.take j := by
  unfold cutV
  rw [HT.sIx_none, HT.sIx_nat, List.drop_zero, Nat.sub_zero]
  by_cases h : j ≤ xs.length
  · rw [Nat.min_eq_left h]
  · rw [Nat.min_eq_right (by omega), List.take_length, List.take_of_length_le (by omega)]
theorem rs_till {j : Nat} (hx : Dp K (cut ms H) v (.list ds)) (lv : Live ms H) {Q : VK} (q : ∀ v H', Same H H' → Dp K (cut ms H') v (.list (ds.take j)) → Q v H') : rSlL K v none (some (j : Int)) H Q := by
  cases hx with
  | lst sx dx =>
    refine ⟨_, _, rfl, sql_mono cut_le sx, fun p hp => q _ _ (same_put hp) ?_⟩
    rw [cut_nat]
    exact Sl.new_lst lv hp (dpa_take j dx)
theorem en_till {Ψ : List PyData → Prop} {j : Nat} (ha : En K W ta ρ (IsD fun d => ∃ ds, d = .list ds ∧ Ψ ds)) (hb : Evd K W tb ρ (.int (j : Int))) : En K W (tSl (rSlL K) ta tNoPart (tPart tb)) ρ (IsD fun d => ∃ ds, d = .list (ds.take j) ∧ Ψ ds) := fun ms B σ H a Q q => ha ms B σ H a _ fun s v H1 φ h1 x1 o1 => hb ms B σ H1 h1 _ fun w H2 h2 x2 o2 => by
  obtain ⟨d, rfl, ds, rfl, ψ⟩ := φ
  cases o2
  exact ⟨_, rfl, rs_till (dp_mono (x2.cut h1.sub) _ _ o1) h2.live fun v H3 s3 o3 => q (.dat (.list (ds.take j))) v H3 ⟨_, rfl, ds, rfl, ψ⟩ (h2.same s3) ((x1.trans x2).trans (.of_same s3)) o3⟩
/-- t[:j] -/
theorem ev_tillT {j : Nat} (ha : Evd K W ta ρ (.tuple ds)) (hb : Evd K W tb ρ (.int (j : Int))) : Evd K W (tSl (rSlA K) ta tNoPart (tPart tb)) ρ (.tuple (ds.take j)) := fun ms B σ H a Q q => ha ms B σ H a _ fun v H1 h1 x1 o1 => hb ms B σ H1 h1 _ fun w H2 h2 x2 o2 => by
  cases o2
  have o3 := dp_mono (x2.cut h1.sub) _ _ o1
  refine ⟨_, rfl, ?_⟩
  have o4 := o3
  cases o3 with
  | tup sx dx =>
    have lx := dpa_len dx
    refine ⟨_, _, rfl, sqt_mono cut_le sx, fun hw => q _ H2 h2 (x1.trans x2) ?_, fun _ p hp => q _ _ (h2.same (same_put hp)) ((x1.trans x2).trans (.of_same (same_put hp))) ?_⟩
    · have h2 := hw.2
      rw [HT.sIx_nat] at h2
      have e : ds.take j = ds := List.take_of_length_le (by omega)
      show Dp K _ _ (.tuple (ds.take j))
      rw [e]
      exact o4
    · rw [cut_nat]
      exact Sl.new_tup h2.live hp (dpa_take j dx)
theorem cut_natF (xs : List V) (j : Nat) : cutV xs (some (j : Int)) none = xs.drop j := by
  unfold cutV
  rw [HT.sIx_none, HT.sIx_nat]
  by_cases h : j ≤ xs.length
  · rw [Nat.min_eq_left h, List.take_of_length_le (by rw [List.length_drop]; exact Nat.le_refl _)]
  · rw [Nat.min_eq_right (by omega), List.drop_length, List.drop_of_length_le (by omega)]
    simp
/-- t[j:] -/
theorem ev_fromT {j : Nat} (ha : Evd K W ta ρ (.tuple ds)) (hb : Evd K W tb ρ (.int (j : Int))) : Evd K W (tSl (rSlA K) ta (tPart tb) tNoPart) ρ (.tuple (ds.drop j)) := fun ms B σ H a Q q => ha ms B σ H a _ fun v H1 h1 x1 o1 => hb ms B σ H1 h1 _ fun w H2 h2 x2 o2 => by
  cases o2
  have o3 := dp_mono (x2.cut h1.sub) _ _ o1
  refine ⟨_, rfl, ?_⟩
  have o4 := o3
  cases o3 with
  | tup sx dx =>
    have lx := dpa_len dx
    refine ⟨_, _, rfl, sqt_mono cut_le sx, fun hw => q _ H2 h2 (x1.trans x2) ?_, fun _ p hp => q _ _ (h2.same (same_put hp)) ((x1.trans x2).trans (.of_same (same_put hp))) ?_⟩
    · have h2 := hw.1
      rw [HT.sIx_nat] at h2
      show Dp K _ _ (.tuple (ds.drop j))
      by_cases z : j = 0
      · subst z; exact o4
      · have e : ds = [] := List.length_eq_zero_iff.mp (by omega)
        subst e
        rw [List.drop_nil]
        exact o4
    · rw [cut_natF]
      exact Sl.new_tup h2.live hp (dpa_drop j dx)
theorem rs_catT (hz : ds.length + es.length ≤ 100000) : Rs K (rCatA K) (.dat (.tuple ds)) (.dat (.tuple es)) (.dat (.tuple (ds ++ es))) := fun ms H x y lv hx hy Q q => by
  have hx0 := hx
  have hy0 := hy
  cases hx with
  | tup sx dx => cases hy with
    | tup sy dy =>
      have lx := dpa_len dx
      have ly := dpa_len dy
      refine ⟨_, _, _, _, rfl, rfl, sqt_mono cut_le sx, sqt_mono cut_le sy, by rw [lx, ly]; exact le_line hz, fun e => q _ H (Same.refl H) ?_, fun _ e => q _ H (Same.refl H) ?_, fun _ _ p hp => q _ _ (same_put hp) (Sl.new_tup lv hp (dpa_app dx dy))⟩
      · rw [e] at lx
        obtain rfl : ds = [] := List.length_eq_zero_iff.mp lx.symm
        exact hy0
      · rw [e] at ly
        obtain rfl : es = [] := List.length_eq_zero_iff.mp ly.symm
        rw [List.append_nil]
        exact hx0
theorem ev_catT (ha : Evd K W ta ρ (.tuple ds)) (hb : Evd K W tb ρ (.tuple es)) (hz : ds.length + es.length ≤ 100000) : Evd K W (tOp (rCatA K) ta tb) ρ (.tuple (ds ++ es)) := ev_op ha hb (rs_catT hz)
end
end Fw

/-! The frame, 18: dicts of ints to pairs of ints; one's own list lent to an expression, its items set; starred items. -/
namespace Fw
open PySem L2
open PyProof.Rows (envOfC)
section
variable {X : Cx} {e : Expr} {es : List Expr} {te td : TE} {t : TA} {p : Pos}
theorem kpas (he : PE X e te) (hr : PA X es t) (hs : starEach (.Starred e p :: es) X.env = (true, eval e X.env) :: starEach es X.env := by kernel_rfl) : PA X (.Starred e p :: es) (StX.tStar X.K te t) := StX.pa_star he hr hs
theorem kitems {elts : List Expr} {kk : Nat} {tpos apos cpos : Pos} (he : PE X e td) (h1 : attributeBase e "items" X.env (eval e X.env) = eval e X.env := by kernel_rfl) (h2 : (apos.endLine == cpos.line) = true := by kernel_rfl) : PI X (.Tuple elts kk tpos) (.Call (.Attribute e "items" apos) [] [] cpos) (iItems td) := pi_items he h1 h2
end
/-! ### rows of (int, pair) as a dict keeps them -/
abbrev PRow := List (Int × (Int × Int))
def putP (es : PRow) (x : Int) (p : Int × Int) : PRow := if (es.any fun e => decide (e.1 = x)) = true then es.map (fun e => if e.1 = x then (e.1, p) else e) else es ++ [(x, p)]
def lookP (es : PRow) (x : Int) : Option (Int × Int) := (es.find? fun e => decide (e.1 = x)).map (·.2)
def dictL (xs ys : List Int) (f : Int → Int → Int) (g : Int → Int → Int × Int) : PRow := (xs.flatMap fun x => ys.map fun y => (f x y, g x y)).foldl (fun acc e => putP acc e.1 e.2) []
theorem putP_mem {es : PRow} {x : Int} {p : Int × Int} {e : Int × (Int × Int)} (h : e ∈ putP es x p) : e ∈ es ∨ e = (x, p) := by
  unfold putP at h
  split at h
  · obtain ⟨u, hu, rfl⟩ := List.mem_map.mp h
    by_cases c : u.1 = x
    · rw [if_pos c, c]; exact .inr rfl
    · rw [if_neg c]; exact .inl hu
  · rcases List.mem_append.mp h with q | q
    · exact .inl q
    · exact .inr (List.mem_singleton.mp q)
theorem putP_key {es : PRow} {x y : Int} {p : Int × Int} (h : y = x ∨ ∃ q, (y, q) ∈ es) : ∃ q, (y, q) ∈ putP es x p := by
  unfold putP
  by_cases c : (es.any fun e => decide (e.1 = x)) = true
  · rw [if_pos c]
    have key : ∃ q, (y, q) ∈ es := by
      rcases h with rfl | h
      · obtain ⟨e, he, q⟩ := List.any_eq_true.mp c
        have q2 : e.1 = y := of_decide_eq_true q
        exact ⟨e.2, by rw [← q2]; exact he⟩
      · exact h
    obtain ⟨q, hq⟩ := key
    by_cases z : y = x
    · exact ⟨p, List.mem_map.mpr ⟨(y, q), hq, by rw [if_pos z]⟩⟩
    · exact ⟨q, List.mem_map.mpr ⟨(y, q), hq, by rw [if_neg z]⟩⟩
  · rw [if_neg c]
    rcases h with rfl | ⟨q, hq⟩
    · exact ⟨p, List.mem_append_right _ (List.mem_singleton.mpr rfl)⟩
    · exact ⟨q, List.mem_append_left _ hq⟩
theorem dict_mem {f : Int → Int → Int} {g : Int → Int → Int × Int} {xs ys : List Int} {e : Int × (Int × Int)} (h : e ∈ dictL xs ys f g) : ∃ x ∈ xs, ∃ y ∈ ys, e = (f x y, g x y) := by
  have key : ∀ (l acc : PRow), e ∈ l.foldl (fun acc e => putP acc e.1 e.2) acc → e ∈ acc ∨ e ∈ l := fun l => by
    induction l with
    | nil => exact fun acc h => .inl h
    | cons u l ih =>
      intro acc h
      rw [List.foldl_cons] at h
      rcases ih _ h with q | q
      · rcases putP_mem q with q | q
        · exact .inl q
        · exact .inr (by rw [q]; exact List.mem_cons_self)
      · exact .inr (List.mem_cons_of_mem _ q)
  rcases key _ _ h with q | q
  · cases q
  · obtain ⟨x, hx, q⟩ := List.mem_flatMap.mp q
    obtain ⟨y, hy, rfl⟩ := List.mem_map.mp q
    exact ⟨x, hx, y, hy, rfl⟩
theorem dict_key {f : Int → Int → Int} {g : Int → Int → Int × Int} {xs ys : List Int} {x y : Int} (hx : x ∈ xs) (hy : y ∈ ys) : ∃ q, (f x y, q) ∈ dictL xs ys f g := by
  have key : ∀ (l acc : PRow) (z : Int), ((∃ q, (z, q) ∈ acc) ∨ ∃ q, (z, q) ∈ l) → ∃ q, (z, q) ∈ l.foldl (fun acc e => putP acc e.1 e.2) acc := fun l => by
    induction l with
    | nil => exact fun acc z h => h.elim id fun ⟨q, h⟩ => nomatch h
    | cons u l ih =>
      intro acc z h
      rw [List.foldl_cons]
      refine ih _ z ?_
      rcases h with h | ⟨q, h⟩
      · exact .inl (putP_key (.inr h))
      · rcases List.mem_cons.mp h with e | e
        · exact .inl (putP_key (.inl (by rw [← e])))
        · exact .inr ⟨q, e⟩
  exact key _ _ _ (.inr ⟨g x y, List.mem_flatMap.mpr ⟨x, hx, List.mem_map.mpr ⟨y, hy, rfl⟩⟩⟩)
theorem look_some {es : PRow} {x : Int} {p : Int × Int} (h : lookP es x = some p) : (x, p) ∈ es := by
  unfold lookP at h
  cases e : es.find? fun e => decide (e.1 = x) with
  | none => rw [e] at h; cases h
  | some u =>
    rw [e] at h
    have q : u.2 = p := Option.some.inj h
    have m := List.mem_of_find?_eq_some e
    have k : u.1 = x := of_decide_eq_true (List.find?_some (p := fun e : Int × (Int × Int) => decide (e.1 = x)) e)
    rw [← q, ← k]
    exact m
theorem look_none {es : PRow} {x : Int} (h : lookP es x = none) (p : Int × Int) : (x, p) ∉ es := fun m => by
  unfold lookP at h
  cases e : es.find? fun e => decide (e.1 = x) with
  | some u => rw [e] at h; cases h
  | none =>
    have := List.find?_eq_none.mp e _ m
    simp at this
section
variable {K : PySem.W.Frag} {W : Wd} {ms : List Addr} {B : Bs} {H H' : Hp} {ρ ρ' ρ0 ρ1 : List Sl} {σ σ' : L2.St} {d e : PyData} {ds es : List PyData} {s s1 s2 : Sl} {v : V} {vs : List V} {l l1 l2 : Addr} {i j : Nat}
  {ta tb tc te tx tl ti tv tm tl1 tl2 tk : TE} {tt t u : TT} {wi : TI} {g : TG} {gs : TGs} {D : Ends} {ts ts' tz : TS} {Φ Φ1 Φ2 : Sl → Prop}
def KvR (K : PySem.W.Frag) (Hc : Hp) (kvs : List (Key × V)) (es : PRow) : Prop := Paired (fun kv e => kv.1 = (Sum.inl e.1 : Key) ∧ Dp K Hc kv.2 (pairI e.2)) kvs es
theorem KvR.mono {kvs : List (Key × V)} {es : PRow} (h : KvR K H kvs es) (m : Same H H') : KvR K H' kvs es := Paired.mapP h fun _ _ q => ⟨q.1, dp_mono m _ _ q.2⟩
theorem KvR.len {kvs : List (Key × V)} {es : PRow} (h : KvR K H kvs es) : kvs.length = es.length := Paired.length h
theorem KvR.any {kvs : List (Key × V)} {es : PRow} (h : KvR K H kvs es) (x : Int) : (kvs.any fun kv => decide (kv.1 = (.inl x : Key))) = (es.any fun e => decide (e.1 = x)) := by
  induction h with
  | nil => rfl
  | cons a t ih =>
    rw [List.any_cons, List.any_cons, ih, a.1]
    congr 1
    rw [Bool.eq_iff_iff, decide_eq_true_eq, decide_eq_true_eq]
    exact ⟨fun z => by injection z, fun z => by rw [z]⟩
theorem KvR.put {kvs : List (Key × V)} {es : PRow} {x : Int} {p : Int × Int} (h : KvR K H kvs es) (o : Dp K H v (pairI p)) : KvR K H (putK kvs (.inl x) v) (putP es x p) := by
  unfold putK putP
  rw [h.any x]
  split
  · rename_i zz
    clear zz
    induction h with
    | nil => exact .nil
    | @cons a b _ _ q t ih =>
      rw [List.map_cons, List.map_cons]
      refine .cons ?_ ih
      by_cases c : b.1 = x
      · rw [if_pos (by rw [q.1, c]), if_pos c]
        exact ⟨q.1, o⟩
      · rw [if_neg (fun z => by rw [q.1] at z; injection z with z; exact c z), if_neg c]
        exact q
  · exact Paired.snoc h ⟨rfl, o⟩
theorem KvR.look {kvs : List (Key × V)} {es : PRow} (h : KvR K H kvs es) (x : Int) : (∃ v p, valV kvs (.inl x : Key) = some v ∧ lookP es x = some p ∧ Dp K H v (pairI p)) ∨ (valV kvs (.inl x : Key) = none ∧ lookP es x = none) := by
  induction h with
  | nil => exact .inr ⟨rfl, rfl⟩
  | @cons a b _ _ q t ih =>
    by_cases c : b.1 = x
    · refine .inl ⟨a.2, b.2, valV_pos (by rw [q.1, c]), ?_, q.2⟩
      unfold lookP
      rw [List.find?_cons, decide_eq_true c]
      rfl
    · have e1 : ∀ r : List (Key × V), valV (a :: r) (.inl x : Key) = valV r (.inl x : Key) := fun r => valV_neg (p := a) (fun z => by rw [q.1] at z; injection z with z; exact c z)
      have e2 : ∀ r : PRow, lookP (b :: r) x = lookP r x := fun r => by
        unfold lookP
        rw [List.find?_cons, decide_eq_false c]
      rw [e1, e2]
      exact ih
theorem KvR.at {kvs : List (Key × V)} {es : PRow} (h : KvR K H kvs es) : ∀ {j : Nat} {e : Int × (Int × Int)}, es[j]? = some e → ∃ kv, kvs[j]? = some kv ∧ kv.1 = (Sum.inl e.1 : Key) ∧ Dp K H kv.2 (pairI e.2) := by
  induction h with
  | nil => intro j e z; cases z
  | @cons a b _ _ q t ih =>
    intro j e z
    cases j with
    | zero =>
      rw [List.getElem?_cons_zero] at z
      cases z
      exact ⟨a, rfl, q⟩
    | succ j =>
      rw [List.getElem?_cons_succ] at z
      rw [List.getElem?_cons_succ]
      exact ih z
/-- a dict of one's own -/
structure OwnK (K : PySem.W.Frag) (W : Wd) (ms : List Addr) (B : Bs) (l : Addr) (es : PRow) (H : Hp) : Prop where
  mem : l ∈ ms
  nws : l ∉ W.ws
  h0 : B.h0 l = none
  val : ∃ kvs, H l = some (.dK kvs) ∧ KvR K (cut ms H) kvs es
theorem OwnK.go {es : PRow} (o : OwnK K W ms B l es H) (sub : ∀ a ∈ W.ws, a ∈ ms) (x : XW W.ws H H') : OwnK K W ms B l es H' := by
  obtain ⟨kvs, e, d⟩ := o.val
  exact ⟨o.mem, o.nws, o.h0, kvs, x l _ o.nws e, d.mono (x.cut sub)⟩
theorem OwnK.same {es : PRow} (o : OwnK K W ms B l es H) (s : Same H H') : OwnK K W ms B l es H' := by
  obtain ⟨kvs, e, d⟩ := o.val
  exact ⟨o.mem, o.nws, o.h0, kvs, s _ _ e, d.mono (fun a u q => by
    by_cases z : a ∈ ms
    · rw [cut_in z] at q; cases q
    · rw [cut_out z] at q ⊢
      exact s _ _ q)⟩
theorem OwnK.re {es : PRow} (o : OwnK K W ms B l es H) (b : Hp) : OwnK K W ms ⟨B.h0, b⟩ l es H := ⟨o.mem, o.nws, o.h0, o.val⟩
theorem OwnK.un {b : Hp} {es : PRow} (o : OwnK K W ms ⟨B.h0, b⟩ l es H) : OwnK K W ms B l es H := ⟨o.mem, o.nws, o.h0, o.val⟩
theorem OwnK.other {es : PRow} (o : OwnK K W ms B l1 es H) {u : HO} (h : l2 ∈ ms) (n : l1 ≠ l2) : OwnK K W ms B l1 es (upd H l2 u) := by
  obtain ⟨kvs, e, dd⟩ := o.val
  exact ⟨o.mem, o.nws, o.h0, kvs, by rw [upd_ne n]; exact e, dd.mono (cut_put (.inl h))⟩
/-- .. to a new dict -/
def EvK (K : PySem.W.Frag) (W : Wd) (te : TE) (ρ : List Sl) (es : PRow) : Prop :=
  ∀ (ms : List Addr) (B : Bs) (σ : L2.St) (H : Hp), At K W ms B ρ σ H → ∀ Q : VK, (∀ p kvs H', At K W ms B ρ σ H' → XW W.ws H H' → H p = none → H' p = some (.dK kvs) → KvR K (cut (p :: ms) H') kvs es → Q (.ref p) H') → te σ H Q
/-- {k: pair for x in l1 for y in l2} -/
theorem ek_dc2 {xs ys : List Int} {f : Int → Int → Int} {dv : Int → Int → Int × Int} (hz : xs.length * ys.length ≤ 1000000)
    (e1 : Evd K W0 tl1 ρ (.list (xs.map .int))) (e2 : ∀ x ∈ xs, Evd K W0 tl2 ((wipeR ρ [i, j]).set i (.dat (.int x))) (.list (ys.map .int)))
    (ek : ∀ x ∈ xs, ∀ y ∈ ys, Evd K W0 tk ((wipeR ((wipeR ρ [i, j]).set i (.dat (.int x))) [j]).set j (.dat (.int y))) (.int (f x y)))
    (ev : ∀ x ∈ xs, ∀ y ∈ ys, Evd K W0 tv ((wipeR ((wipeR ρ [i, j]).set i (.dat (.int x))) [j]).set j (.dat (.int y))) (pairI (dv x y))) :
    EvK K W0 (Dc2.tDc2 (iList K tl1) (gName i) (iList K tl2) (gName j) tk tv [i, j] [j]) ρ (dictL xs ys f dv) := by
  intro ms B σ H h Q q
  refine src_list e1 ms B σ H h _ fun J H1 h1 x1 stm => ?_
  obtain ⟨G, Y, wk, st⟩ := stm
  intro D nD
  have bx : ∀ {x : Int} {l : List Int} {k : Nat}, l[k]? = some x → x ∈ l := fun h => List.mem_of_getElem? h
  have a0 := (h1.base.own (o := .dK []) nD)
  have n0 : H D = none := by
    cases z : H D with
    | none => rfl
    | some o => rw [x1 D o (by intro z; cases z) z] at nD; cases nD
  let row : List Int → Int → PRow := fun ys x => ys.map fun y => (f x y, dv x y)
  let fold : PRow → PRow := fun l => l.foldl (fun acc e => putP acc e.1 e.2) []
  have fold_len : ∀ l : PRow, (fold l).length ≤ l.length := fun l => by
    have : ∀ (l acc : PRow), (l.foldl (fun acc e => putP acc e.1 e.2) acc).length ≤ acc.length + l.length := fun l => by
      induction l with
      | nil => intro acc; simp
      | cons u l ih =>
        intro acc
        rw [List.foldl_cons, List.length_cons]
        have := ih (putP acc u.1 u.2)
        have h2 : (putP acc u.1 u.2).length ≤ acc.length + 1 := by
          unfold putP
          split
          · rw [List.length_map]; omega
          · rw [List.length_append]; simp
        omega
    have := this l []
    simpa [fold] using this
  have fl : ∀ k x, xs[k]? = some x → (xs.take (k + 1)).flatMap (row ys) = (xs.take k).flatMap (row ys) ++ row ys x := fun k x e => by rw [take_more e, List.flatMap_append]; simp
  have small : ∀ k x l, xs[k]? = some x → ((xs.take k).flatMap (row ys) ++ row (ys.take l) x).length < sizeLine := fun k x l e => by
    have hk := (List.getElem?_eq_some_iff.mp e).1
    have h2 : ∀ zs : List Int, (zs.flatMap (row ys)).length = zs.length * ys.length := fun zs => by
      induction zs with
      | nil => simp
      | cons z zs ih =>
        rw [List.flatMap_cons, List.length_append, ih, List.length_cons, Nat.succ_mul]
        show (ys.map _).length + _ = _
        rw [List.length_map]
        omega
    rw [List.length_append, h2]
    show _ + ((ys.take l).map _).length < _
    rw [List.length_map, List.length_take, List.length_take]
    have h3 : min k xs.length * ys.length ≤ xs.length * ys.length := Nat.mul_le_mul_right _ (Nat.min_le_right _ _)
    have h4 : ys.length ≤ xs.length * ys.length := Nat.le_mul_of_pos_left _ (by omega)
    exact Nat.lt_of_le_of_lt (show _ ≤ 2000000 by omega) (show 2000000 < sizeLine by decide)
  have xsl : (xs.map PyData.int).length = xs.length := List.length_map _
  refine loop_by wk (fun k H' => At K W0 (D :: ms) ⟨H1, H1⟩ (wipeR ρ [i, j]) (L2.wipe σ [i, j]) H' ∧ ∃ kvs, H' D = some (.dK kvs) ∧ KvR K (cut (D :: ms) H') kvs (fold ((xs.take k).flatMap (row ys))))
    ⟨a0.wipe _, [], upd_same, .nil⟩ (fun k H' _ ⟨a, _⟩ => (st (D :: ms) H' ((cut_new nD).trans a.st)).1) (fun k v H' H'' lt ⟨a, kvs, hD, hk⟩ y => ?_) fun H' ⟨a, kvs, hD, hk⟩ => ?_
  · obtain ⟨sm, hd⟩ := (st (D :: ms) H' ((cut_new nD).trans a.st)).2 k v H'' a.live y
    rw [xsl] at lt
    have ex : xs[k]? = some xs[k] := List.getElem?_eq_getElem lt
    generalize xs[k] = x at ex
    have dv1 := hd (.int x) (by rw [List.getElem?_map, ex]; rfl)
    have a1 := a.same sm
    have hD1 := sm _ _ hD
    have sm0 : Same (cut (D :: ms) H') (cut (D :: ms) H'') := (XW.of_same (ws := []) sm).cut (fun a z => by cases z)
    have a2 := (a1.re.set (s := .dat (.int x)) dv1 i)
    refine ⟨wipe_diff (Diff.set _ i _) (by simp), ?_⟩
    refine src_list (e2 x (bx ex)) (D :: ms) ⟨H1, H''⟩ _ H'' a2 _ fun J1 H4 h4 x4 stm1 => ?_
    obtain ⟨G1, Y1, wk1, st1⟩ := stm1
    have hD4 := x4 D _ (by intro z; cases z) hD1
    have sm4 : Same (cut (D :: ms) H'') (cut (D :: ms) H4) := x4.cut (fun a z => by cases z)
    refine loop_by wk1 (fun l H5 => At K W0 (D :: ms) ⟨H1, H''⟩ (wipeR ((wipeR ρ [i, j]).set i (.dat (.int x))) [j]) (L2.wipe ((L2.wipe σ [i, j]).set i (some v)) [j]) H5 ∧ Same (cut (D :: ms) H4) (cut (D :: ms) H5) ∧ ∃ kvs, H5 D = some (.dK kvs) ∧ KvR K (cut (D :: ms) H5) kvs (fold ((xs.take k).flatMap (row ys) ++ row (ys.take l) x)))
      ⟨h4.wipe _, Same.refl _, kvs, hD4, by simpa [row] using hk.mono (sm0.trans sm4)⟩ (fun l H5 _ ⟨b, s5, _⟩ => (st1 (D :: ms) H5 s5).1) (fun l v1 H5 H6 lt1 ⟨b, s5, kv5, hD5, hk5⟩ y1 => ?_) fun H5 ⟨b, s5, kv5, hD5, hk5⟩ => ?_
    · obtain ⟨sm1, hd1⟩ := (st1 (D :: ms) H5 s5).2 l v1 H6 b.live y1
      rw [List.length_map] at lt1
      have ey : ys[l]? = some ys[l] := List.getElem?_eq_getElem lt1
      generalize ys[l] = yv at ey
      have dv2 := hd1 (.int yv) (by rw [List.getElem?_map, ey]; rfl)
      have b1 := (b.same sm1).set (s := .dat (.int yv)) dv2 j
      refine ⟨wipe_diff (Diff.set _ j _) (by simp), ek x (bx ex) yv (bx ey) (D :: ms) _ _ H6 b1 _ fun kk H7 b7 x7 o7 => ev x (bx ex) yv (bx ey) (D :: ms) _ _ H7 b7 _ fun vv H8 b8 x8 o8 => ?_⟩
      cases o7
      have hD8 := x8 D _ (by intro z; cases z) (x7 D _ (by intro z; cases z) (sm1 _ _ hD5))
      have c0 := cut_put (p := D) (o := .dK (putK kv5 (.inl (f x yv)) vv)) (ms := D :: ms) (H := H8) (.inl List.mem_cons_self)
      have sm2 := ((x7.trans x8).cut (ms := D :: ms) (fun a z => by cases z))
      have sm1' : Same (cut (D :: ms) H5) (cut (D :: ms) H6) := (XW.of_same (ws := []) sm1).cut (fun a z => by cases z)
      have hk8 := hk5.mono (sm1'.trans sm2)
      refine ⟨kv5, .inl (f x yv), rfl, hD8, ?_, ?_⟩
      · rw [hk5.len]
        exact Nat.lt_of_le_of_lt (fold_len _) (small k x l ex)
      · refine ⟨⟨b8.sub, b8.live.upd, (b.env.mono (sm1'.trans sm2)).mono c0, trivial, b8.xw.put (by exact nD), b8.st.trans c0, trivial⟩, ((s5.trans sm1').trans sm2).trans c0, _, upd_same, ?_⟩
        have e1 : row (ys.take (l + 1)) x = row (ys.take l) x ++ [(f x yv, dv x yv)] := by
          show (ys.take (l + 1)).map _ = (ys.take l).map _ ++ _
          rw [take_more ey, List.map_append]
          rfl
        have e2 : fold ((xs.take k).flatMap (row ys) ++ row (ys.take (l + 1)) x) = putP (fold ((xs.take k).flatMap (row ys) ++ row (ys.take l) x)) (f x yv) (dv x yv) := by
          rw [e1, ← List.append_assoc]
          show List.foldl _ _ (_ ++ [_]) = _
          rw [List.foldl_append]
          rfl
        rw [e2]
        exact (hk8.put o8).mono c0
    · have l2 : (ys.map PyData.int).length = ys.length := List.length_map _
      rw [l2, List.take_length] at hk5
      refine ⟨⟨b.sub, b.live, a.env.mono (sm0.trans b.st), trivial, b.xw, (a.st.trans sm0).trans b.st, trivial⟩, kv5, hD5, ?_⟩
      rw [fl k x ex]
      exact hk5
  · rw [xsl, List.take_length] at hk
    refine q D kvs H' ?_ (x1.trans a.xw) n0 hD hk
    have m1 : Same (cut ms H1) (cut ms H') := ((cut_new nD).trans a.st).trans cut_cons
    exact ⟨fun b z => (by cases z), fun b z => a.live b (List.mem_cons_of_mem _ z), h1.env.mono m1, trivial, h1.xw.trans a.xw, h1.st.trans m1, trivial⟩
theorem swapc {a b : Addr} (H : Hp) : cut (a :: b :: ms) H = cut (b :: a :: ms) H := by
  funext x
  by_cases q : x ∈ a :: b :: ms
  · rw [cut_in q, cut_in (by simp only [List.mem_cons] at q ⊢; rcases q with q | q | q <;> simp [q])]
  · rw [cut_out q, cut_out (by simp only [List.mem_cons, not_or] at q ⊢; exact ⟨q.2.1, q.1, q.2.2⟩)]
/-- a, b = two new dicts -/
theorem q_parKK {j k : Nat} {r1 r2 : PRow} (h : At K W ms B ρ σ H) (e1 : EvK K W ta ρ r1) (e2 : EvK K W tb ρ r2)
    (kk : ∀ l1 l2 σ' H', At K W (l2 :: l1 :: ms) B ((ρ.set j (.raw (.ref l1))).set k (.raw (.ref l2))) σ' H' → OwnK K W (l2 :: l1 :: ms) B l1 r1 H' → OwnK K W (l2 :: l1 :: ms) B l2 r2 H' → l1 ≠ l2 → tz D σ' H') : tSeq (tPar j k (tCons ta (tCons tb tNil))) tz D σ H :=
  e1 ms B σ H h _ fun l1 kvs1 H1 h1 x1 n1 g1 o1 => by
    obtain ⟨a0, am, aw⟩ := h.fresh n1
    have h1' := h.adopt x1 h1 n1 g1
    refine e2 (l1 :: ms) B σ H1 h1' _ fun l2 kvs2 H2 h2 x2 n2 g2 o2 => ?_
    obtain ⟨b0, bm, bw⟩ := h1'.fresh n2
    have h2' := h1'.adopt x2 h2 n2 g2
    have own1 : OwnK K W (l2 :: l1 :: ms) B l1 r1 H2 := ⟨by simp, aw, a0, kvs1, x2 l1 _ aw g1, o1.mono ((cut_new n2).trans (x2.cut fun a z => List.mem_cons_of_mem _ (h1'.sub a z)))⟩
    have own2 : OwnK K W (l2 :: l1 :: ms) B l2 r2 H2 := ⟨List.mem_cons_self, bw, b0, kvs2, g2, o2⟩
    have ne : l1 ≠ l2 := fun z => bm (by rw [z]; exact List.mem_cons_self)
    exact ⟨_, _, rfl, kk l1 l2 _ _ ((h2'.set (s := .raw (.ref l1)) rfl j).set (s := .raw (.ref l2)) rfl k) own1 own2 ne⟩
/-- for k, pair in d.items(), d one's own -/
theorem q_forItems {row : PRow} {S : Int × (Int × Int) → List Sl} {Y : Nat → Hp → Prop} (h : At K W ms B ρ σ H) (o : OwnK K W ms B l row H) (hr : ρ[i]? = some (.raw (.ref l))) (l0 : Le ρ0 ρ) (y0 : Y 0 H)
    (ys : ∀ j H H', Same H H' → Y j H → Y j H') (yu : ∀ j H u, Y j H → Y j (upd H l u))
    (tg : ∀ e ∈ row, ∃ js, Tg K W g js (.tuple [.int e.1, pairI e.2]) ρ0 (S e))
    (hs : ∀ od kvs Hb j e σ' H', row[j]? = some e → At K W ms ⟨B.h0, Hb⟩ (S e) σ' H' → H' l = some (.frz od (.dK kvs)) → (∀ ρ' σ2 H2, At K W ms ⟨B.h0, Hb⟩ ρ' σ2 H2 → H2 l = some (.frz od (.dK kvs)) → At K W ms B ρ' σ2 (upd H2 l (.dK kvs))) → Y j H' →
      ts ⟨fun σ H => At K W ms ⟨B.h0, Hb⟩ ρ0 σ H ∧ H l = some (.frz od (.dK kvs)) ∧ Y (j + 1) H, fun v H2 => H2 l = some (.frz od (.dK kvs)) ∧ D.rt v (upd H2 l (.dK kvs)), fun σ2 H2 => H2 l = some (.frz od (.dK kvs)) ∧ tz D σ2 (upd H2 l (.dK kvs)), fun σ H => At K W ms ⟨B.h0, Hb⟩ ρ0 σ H ∧ H l = some (.frz od (.dK kvs)) ∧ Y (j + 1) H⟩ σ' H')
    (hd : ∀ σ' H', At K W ms B ρ0 σ' H' → OwnK K W ms B l row H' → Y row.length H' → tz D σ' H') : tSeq (tLock (tFor (iItems (tVar i)) g ts)) tz D σ H := by
  obtain ⟨kvs, hd0, kr⟩ := o.val
  obtain ⟨w, ew, ow⟩ := h.env.get hr (by intro q; cases q)
  obtain rfl : w = .ref l := ow
  refine ⟨l, .dK kvs, hd0, trivial, fun od => ?_⟩
  have h1 : At K W ms B ρ σ (upd H l (.frz od (.dK kvs))) := h.write o.mem o.nws o.h0
  have kr1 : KvR K (cut ms (upd H l (.frz od (.dK kvs)))) kvs row := kr.mono (cut_put (.inl o.mem))
  have un : ∀ ρ' σ2 H2, At K W ms ⟨B.h0, upd H l (.frz od (.dK kvs))⟩ ρ' σ2 H2 → H2 l = some (.frz od (.dK kvs)) → At K W ms B ρ' σ2 (upd H2 l (.dK kvs)) := fun ρ' σ2 H2 g e => (h1.un g).write o.mem o.nws o.h0 (nx_frz e)
  refine ⟨.ref l, ew, l, od, kvs, rfl, upd_same, ?_⟩
  refine for_it walk_items (fun j σ H' => At K W ms ⟨B.h0, upd H l (.frz od (.dK kvs))⟩ ρ0 σ H' ∧ H' l = some (.frz od (.dK kvs)) ∧ Y j H') ⟨h1.re.le l0, upd_same, yu 0 H _ y0⟩ (fun j σ H' _ p => p.2.1) (fun j x σ2 H2 H3 hj p y => ?_) fun σ2 H2 p => ?_
  · obtain ⟨T, kx, vx, rfl, hT, rfl, e1, e2⟩ := y
    have lj : j < row.length := by rw [← kr.len]; exact hj
    have er : row[j]? = some row[j] := List.getElem?_eq_getElem lj
    have mr : row[j] ∈ row := List.getElem_mem lj
    generalize row[j] = e at er mr
    obtain ⟨kv, ekv, ek, dv⟩ := kr1.at er
    dsimp only at e1 e2
    rw [ekv] at e1 e2
    have e1' : kV kv.1 = kx := Option.some.inj e1
    have e2' : kv.2 = vx := Option.some.inj e2
    subst e1' e2'
    rw [ek]
    obtain ⟨js, tj⟩ := tg e mr
    have a1 := p.1.same (same_put (o := .tup [kV (Sum.inl e.1 : Key), kv.2]) hT)
    exact tj ms _ σ2 _ (.ref T) a1 (Sl.new_tup (ds := [.int e.1, pairI e.2]) p.1.live hT (.cons (.int _) (.cons (dp_mono p.1.st _ _ dv) .nil))) _ fun σ3 h3 _ => hs od kvs _ j e σ3 _ er h3 (same_put hT _ _ p.2.1) un (ys j _ _ (same_put hT) p.2.2)
  · have a2 := un _ _ _ p.1 p.2.1
    refine ⟨p.2.1, hd σ2 _ a2 ⟨o.mem, o.nws, o.h0, kvs, upd_same, kr1.mono (p.1.st.trans (cut_put (.inl o.mem)))⟩ ?_⟩
    have e : kvs.length = row.length := kr.len
    rw [← e]
    exact yu _ _ _ p.2.2
/-! ### lending -/
theorem run_lend {Ψ : PyData → Prop} {Q : VK} (h : At K W (l :: ms) B ρ σ H) (o : Own K W (l :: ms) B l ds H) (hm : l ∉ ms) (hr : ρ[i]? = some (.raw (.ref l))) (e : En K W te (ρ.set i (.dat (.list ds))) (IsD fun d => noList d = true ∧ Ψ d))
    (k : ∀ d v H', Ψ d → At K W (l :: ms) B ρ σ H' → XW W.ws H H' → Own K W (l :: ms) B l ds H' → Dp K (cut (l :: ms) H') v d → Q v H') : te σ H Q := by
  obtain ⟨vs, el, dd⟩ := o.val
  refine e ms (B.off l) σ H (h.off.lend ⟨o.mem, o.nws, o.h0, o.val⟩ hm (by show (if l = l then none else B.hb l) = none; rw [if_pos rfl]) hr) _ fun s v H1 φ h1 x1 o1 => ?_
  obtain ⟨d, rfl, nl, ψ⟩ := φ
  have e1 := x1 l _ o.nws el
  have g1 : At K W (l :: ms) B ρ σ H1 := h.go x1 (fun a z => (List.mem_cons.mp z).elim (fun q => by rw [q]; exact ⟨_, e1⟩) (h1.live a)) h1.p
  exact k d v H1 ψ g1 x1 (o.go h.sub x1) (dp_nolist e1 d v nl o1)
/-- a target set by an expression that may read one's own list -/
theorem q_tgtL {Ψ : PyData → Prop} (h : At K W (l :: ms) B ρ σ H) (o : Own K W (l :: ms) B l ds H) (hm : l ∉ ms) (hr : ρ[i]? = some (.raw (.ref l))) (e : En K W te (ρ.set i (.dat (.list ds))) (IsD fun d => noList d = true ∧ Ψ d))
    (k : ∀ d, Ψ d → ∃ js ρ', Tg K W g js d ρ ρ' ∧ ∀ σ' H', At K W (l :: ms) B ρ' σ' H' → Own K W (l :: ms) B l ds H' → tz D σ' H') : tSeq (tAsg te g) tz D σ H := run_lend h o hm hr e fun d v H1 ψ g1 _ o1 od => by
  obtain ⟨js, ρ', tj, kk⟩ := k d ψ
  exact tj (l :: ms) B σ H1 v g1 od _ fun σ' h' _ => kk σ' H1 h' o1
theorem dpa_set : ∀ {ds : List PyData} {vs : List V} (n : Nat) {v : V} {d : PyData}, Dp K H v d → DpAll K H vs ds → DpAll K H (vs.set n v) (ds.set n d)
  | [], _, n, v, d, _, h => by cases h; exact .nil
  | _ :: _, _, 0, v, d, hd, h => by cases h with | cons _ t => exact .cons hd t
  | _ :: _, _, n + 1, v, d, hd, h => by cases h with | cons a t => exact .cons a (dpa_set n hd t)
theorem ix_nat {n m : Nat} (h : m < n) : ixN n (m : Int) = some m := by
  unfold ixN
  rw [if_pos (Int.natCast_nonneg m), if_pos (by omega), Int.toNat_natCast]
/-- l[e] = v, which may read l -/
theorem s_setL {Ψ : PyData → Prop} {m : Nat} (h : At K W (l :: ms) B ρ σ H) (o : Own K W (l :: ms) B l ds H) (hm : l ∉ ms) (hr : ρ[i]? = some (.raw (.ref l))) (e : En K W te (ρ.set i (.dat (.list ds))) (IsD fun d => noList d = true ∧ Ψ d)) (ei : Evd K W ti ρ (.int (m : Int))) (hl : m < ds.length)
    (k : ∀ d H', Ψ d → At K W (l :: ms) B ρ σ H' → Own K W (l :: ms) B l (ds.set m d) H' → D.nx σ H') : tAsg te (gSub (tVar i) ti rSetL) D σ H := run_lend h o hm hr e fun d v H1 ψ g1 _ o1 od => by
  obtain ⟨w, ew, ow⟩ := g1.env.get hr (by intro q; cases q)
  obtain rfl : w = .ref l := ow
  refine ⟨_, ew, ei (l :: ms) B σ H1 g1 _ fun jv H2 g2 x2 oj => ?_⟩
  cases oj
  have o2 := o1.go g1.sub x2
  obtain ⟨vs, el, dd⟩ := o2.val
  have od2 := dp_mono (x2.cut g1.sub) _ _ od
  refine ⟨l, vs, m, m, rfl, rfl, el, ix_nat (by rw [dpa_len dd]; exact hl), ?_⟩
  exact k d _ ψ (g2.write o2.mem o2.nws o2.h0) ⟨o2.mem, o2.nws, o2.h0, vs.set m v, upd_same, dpa_mono (cut_put (.inl o2.mem)) _ _ (dpa_set m od2 dd)⟩
theorem q_setL {Ψ : PyData → Prop} {m : Nat} (h : At K W (l :: ms) B ρ σ H) (o : Own K W (l :: ms) B l ds H) (hm : l ∉ ms) (hr : ρ[i]? = some (.raw (.ref l))) (e : En K W te (ρ.set i (.dat (.list ds))) (IsD fun d => noList d = true ∧ Ψ d)) (ei : Evd K W ti ρ (.int (m : Int))) (hl : m < ds.length)
    (k : ∀ d H', Ψ d → At K W (l :: ms) B ρ σ H' → Own K W (l :: ms) B l (ds.set m d) H' → tz D σ H') : tSeq (tAsg te (gSub (tVar i) ti rSetL)) tz D σ H := s_setL (D := { D with nx := tz D }) h o hm hr e ei hl k
/-! ### more expressions -/
theorem ed_star {ta : TA} (h : Evd K W te ρ (.tuple ds)) (hr : EvD K W ta ρ es) : EvD K W (StX.tStar K te ta) ρ (ds ++ es) := fun ms B σ H g Q q => h ms B σ H g _ fun v H1 g1 x1 o1 => by
  cases o1 with
  | tup hs ha => exact ⟨_, _, rfl, .inl (sqt_mono cut_le hs), hr ms B σ H1 g1 _ fun ys H2 g2 x2 o2 => q _ H2 g2 (x1.trans x2) (dpa_app (dpa_mono (x2.cut g1.sub) _ _ ha) o2)⟩
abbrev rMax2 : List V → Hp → VK → Prop := fun xs H Q => ∃ i j, xs = [.int i, .int j] ∧ Q (.int (if j > i then j else i)) H
theorem ev_max2 {i j : Int} (h : Evd K W ta ρ (.int i)) (h' : Evd K W tb ρ (.int j)) : Evd K W (tCB rMax2 (tCons ta (tCons tb tNil))) ρ (.int (if j > i then j else i)) := ev_cb (ed_cons h (ed_cons h' ed_nil)) (rc2 fun ms H v w l o o' Q q => by
  cases o; cases o'
  exact ⟨_, _, rfl, q _ H (Same.refl H) (.int _)⟩)
theorem dec_bl {i j : Bool} : decide (V.bl i = V.bl j) = decide (i = j) := by
  cases i <;> cases j <;> rfl
theorem ev_neB {a b : Bool} (ha : Evd K W ta ρ (.bool a)) (hb : Evd K W tb ρ (.bool b)) : Evd K W (tOp rNe ta tb) ρ (.bool (!decide (a = b))) := ev_op ha hb fun ms H x y _ hx hy Q q => by
  cases hx; cases hy
  exact ⟨rfl, q _ H (Same.refl H) (by rw [dec_bl]; exact .bl _)⟩
def isNo : PyData → Bool
  | .none => true
  | _ => false
theorem dec_non {ms : List Addr} {v : V} (h : Dp K (cut ms H) v d) : decide (v = V.non) = isNo d := by
  cases h <;> rfl
abbrev rIsNo : R2 := fun x y H Q => y = .non ∧ Q (.bl (decide (x = .non))) H
abbrev rNotNo : R2 := fun x y H Q => y = .non ∧ Q (.bl (!decide (x = .non))) H
theorem ev_isNo (h : Evd K W te ρ d) : Evd K W (tOp rIsNo te (tC .non)) ρ (.bool (isNo d)) := ev_op h ev_non fun ms H x y _ hx hy Q q => by
  cases hy
  exact ⟨rfl, q _ H (Same.refl H) (by rw [dec_non hx]; exact .bl _)⟩
theorem ev_notNo (h : Evd K W te ρ d) : Evd K W (tOp rNotNo te (tC .non)) ρ (.bool (!isNo d)) := ev_op h ev_non fun ms H x y _ hx hy Q q => by
  cases hy
  exact ⟨rfl, q _ H (Same.refl H) (by rw [dec_non hx]; exact .bl _)⟩
end
end Fw

/-! An own exception that is kept behind its except clause: its class stays known. -/
namespace Fw
open PySem PySem.Spec L2
open PyProof.Rows
/-- an exception object of the class cls -/
def ExK (cls : Value) (a : Addr) : HO := .ext fun h => ∃ (oe : Obj) (vs : Array Value), h.get? a = some oe ∧ Zc cls none oe ∧ oe.data = .fields vs
theorem exK_ok {P : Program} {w : World} {H : Hp} {h : Heap} {a : Addr} {cls : Value} {oe : Obj} {vs : Array Value} (e : h.get? a = some oe) (z : Zc cls none oe) (d : oe.data = .fields vs) : ObjOk P w H h a (ExK cls a) :=
  ⟨⟨oe, vs, e, z, d⟩, ⟨oe, e⟩, fun _ _ ⟨o, v, q, r⟩ k => ⟨o, v, k o q, r⟩⟩
section
variable {X : Cx} {pins : List (Addr × Obj)} {σ : L2.St} {H : Hp} {s : Shared}
/-- what stands in the heap, new since the entry, is tracked from here on -/
theorem Inv.track {a : Addr} {cls : Value} {oe : Obj} {vs : Array Value} (I : Inv X pins σ H s) (ha : s.heap.get? a = some oe) (z : Zc cls none oe) (d : oe.data = .fields vs) (na : H a = none) (n0 : X.s_0.heap.get? a = none) (nL : a ≠ X.env.locals) (np : ∀ p ∈ X.pn ++ pins, p.1 ≠ a) : Inv X pins σ (upd H a (ExK cls a)) s := by
  have ne0 : ∀ b o, X.s_0.heap.get? b = some o → b ≠ a := fun b o e q => by rw [q, n0] at e; cases e
  have nc : ∀ x c, X.env.cells.lookup x = some c → c ≠ a := fun x c e q => by
    obtain ⟨v, o, e1, e2⟩ := I.cell x c e
    rw [q, ha] at e1
    cases e1
    rw [d] at e2
    cases e2
  have keepT : ∀ {b : Addr} {u : HO}, H b = some u → upd H a (ExK cls a) b = some u := fun {b u} e => by rw [upd_ne (ne_of_none e na)]; exact e
  refine ⟨I.ok, I.os, I.bare, ⟨I.base.keep, I.base.slot, fun b o e n hx => ?_, I.base.there, fun b xs e => keepT (I.base.tups b xs e), fun b o u e => keepT (I.base.frzs b o u e), fun b ps e => ?_⟩, I.loc, I.cell, ?_, fun x c e => ?_, fun p hp => ?_, HOk.laidN I.hok (fun _ _ q => q) na (exK_ok ha z d), I.len⟩
  · rw [upd_ne (ne0 b o e)]; exact I.base.free b o e n hx
  · obtain ⟨m, q⟩ := I.base.tbls b ps e
    exact ⟨m, keepT q⟩
  · rw [upd_ne (Ne.symm nL)]; exact I.free
  · rw [upd_ne (nc x c e)]; exact I.freeC x c e
  · obtain ⟨h1, h2, h3⟩ := I.pin p hp
    exact ⟨h1, by rw [upd_ne (np p hp)]; exact h2, h3⟩
end
/-- what the clause 'except x as n' wishes, if the caught one is kept by the suite: slot i is n's -/
def wKeep (K : PySem.W.Frag) (c : Value) (i : Nat) (ts : Addr → TS) (D : Ends) : WX := fun cls d σ H =>
  PySem.W.exmOne K cls c = some true ∧ d = none ∧ ∀ a, H a = none → ts a { nx := fun σ' H' => D.nx (σ'.set i none) (upd H' a (ExK cls a)), rt := fun _ _ => False, bk := fun _ _ => False, ct := fun _ _ => False } (σ.set i (some (.ref a))) H
section
variable {X : Cx} {x n : Str} {c : Value} {i : Nat} {body suite : List Stmt} {b₀ : Stmt} {np pos pos' : Pos} {tb : WX → TS} {ts : Addr → TS}
theorem ps_try_keep (hs : X.stack = X.env :: X.outer) (hf : X.env.frame = some X.env.locals) (hx : X.ex = []) (hN : X.N.Nodup) (hi : X.N[i]? = some n) (hln : X.env.kindOf n = some .local) (hc : Names X x c)
    (hb : ∀ (W : WX) (pn : List (Addr × Obj)) (xe : Value → Shared → Prop), Takes (X.tr pn xe) W → PSs (X.tr pn xe) body (tb W))
    (hsu : ∀ (a : Addr) (oe : Obj) (pn : List (Addr × Obj)), PSs (X.suite a ((a, oe) :: pn)) (b₀ :: suite) (ts a)) :
    PS X (.Try body [.ExceptHandler (some (.Name x np)) (some n) (b₀ :: suite) pos'] [] [] pos) (fun D σ H => tb (wKeep X.K c i ts D) D σ H) := by
  refine ⟨fun pins s σ H D I h => ?_⟩
  have ok := I.ok
  have hfr : X.A.frames = some (X.env :: X.outer) := by rw [ok.frames, hs]
  have hloc : Loc X.env.scope n := .inl hln
  refine wpAny_Try_except ?_
  refine wpAny_mono ((hb (wKeep X.K c i ts D) (X.pn ++ pins) (fun e s₁ => wpAny (model X.prog X.w) X.A (noteFrame e X.env) (fun _ s₂ => wpAny (model X.prog X.w) X.A (setFlight e none) (fun _ s₃ =>
    wpAny (model X.prog X.w) X.A (handleBy e X.env [.ExceptHandler (some (.Name x np)) (some n) (b₀ :: suite) pos']) (SP X pins D) X.xe s₃) X.xe s₂) X.xe s₁) (fun u s' xx => ?_)).run [] s σ H D (I.toTry _) h) (fun f s1 hsp => ?_) (fun e s1 he => he)
  · obtain ⟨a, B, sI, pins', σ', H', cls, d, rfl, J', nb, up, sky, na, os, ag, hb1, rfl, hyes⟩ := xx
    have J : Inv X pins σ' H' sI := J'.ofTry ok
    have sky' : Sky B (X.env :: X.outer) a (Zc cls none) X.env.locals s'.heap := by rw [← hs]; exact sky
    show wpAny (model X.prog X.w) X.A (noteFrame (.ref a) X.env) _ _ _
    refine Sky.land Zc.steady hfr hf sky' fun h3 fl3 up3 => ?_
    have J3 : Inv X pins σ' H' { s' with heap := h3 } := J.landed nb fl3.1 (up.trans up3) os ag
    obtain ⟨oe3, vs3, he3, hz3, hd3⟩ := fl3.there
    have nfr : a ∉ frs (X.env :: X.outer) := fun hm => by
      obtain ⟨_, o', e', hnf⟩ := fl3.2.2.1.mem hm
      rw [he3] at e'; cases e'
      exact hnf _ hd3
    have nL : a ≠ X.env.locals := fun z => nfr (List.mem_filterMap.mpr ⟨X.env, List.mem_cons_self, by rw [hf, z]⟩)
    have nF : a ∉ X.fs := fun hm => by
      obtain ⟨e, he, q⟩ := List.mem_filterMap.mp hm
      exact nfr (List.mem_filterMap.mpr ⟨e, List.mem_cons_of_mem _ he, q⟩)
    -- it is new since the entry
    have nI : sI.heap.get? a = none := by
      cases q : sI.heap.get? a with
      | none => rfl
      | some o =>
        have z := nb a o q (by rw [hs]; exact nfr)
        rw [fl3.2.1] at z; cases z
    have n0 : X.s_0.heap.get? a = none := by
      cases q : X.s_0.heap.get? a with
      | none => rfl
      | some o =>
        obtain ⟨o', z⟩ := J.base.there a o q (by rw [hx]; exact fun z => nomatch z)
        rw [nI] at z; cases z
    have npn : ∀ p ∈ X.pn ++ pins, p.1 ≠ a := fun p hp q => by
      have z := (J.pin p hp).1
      rw [q, nI] at z; cases z
    have S3 := J3.suite he3 hd3 na nL nF
    refine wpAny_handleBy_cons (codeAny_handlers_test ?_) (by intro q; cases q)
    have LT : PySem.W.Looks (model X.prog X.w) h3 (typeOf (.ref a)) cls := fun A Q E s k q => wpAny_typeOf_ref (k _ _ he3) (by rw [hz3.1]; exact q)
    have LM := PySem.W.exm_one (M := model X.prog X.w) (J3.kIn) LT hb1
    have test : ∀ {Q : Value → Shared → Prop} {E : Value → Shared → Prop}, Q c { s' with heap := h3 } → wpAny (model X.prog X.w) (X.A.mark (some (.ref a))) (eval (.Name x np) X.env) Q E { s' with heap := h3 } := fun {Q E} q => by
      obtain ⟨hg, hdbg, hm | ⟨hm, hv, hnn⟩⟩ := hc
      · exact ld_glob (X := X.suite a ((a, oe3) :: (X.pn ++ pins))) S3 hg hm q hdbg
      · exact ld_blt (X := X.suite a ((a, oe3) :: (X.pn ++ pins))) S3 hg hm hv q hnn hdbg
    refine test (LM.here ?_)
    refine codeAny_handlers_suite_as ?_
    refine HandSPX.lands_againZ fl3 fun h4 fl4 up4 => ?_
    have J4 : Inv X pins σ' H' { s' with heap := h4 } := J.landed nb fl4.1 ((up.trans up3).trans up4) os ag
    obtain ⟨oe4, vs4, he4, hz4, hd4⟩ := fl4.there
    have S4 := J4.suite he4 hd4 na nL nF
    refine store_ok (X := X.suite a ((a, oe4) :: (X.pn ++ pins))) (v := .ref a) S4 hN hi hloc rfl (fun s5 S5 => ?_) (.inr hln)
    refine wpAny_mono ((hsu a oe4 (X.pn ++ pins)).run [] s5 _ H' _ S5 (hyes a na)) (fun f s6 hsp => ?_) (fun _ _ z => False.elim z)
    cases f with
    | next =>
      obtain ⟨σ6, H6, S6, q6⟩ := hsp
      refine gone_ok (X := X.suite a ((a, oe4) :: (X.pn ++ pins))) S6 hN hi hln fun s7 S7 => ?_
      obtain ⟨ea, n7, _⟩ := S7.pin (a, oe4) (List.mem_append_left _ List.mem_cons_self)
      exact ⟨_, _, Inv.track (S7.unsuite ok) ea hz4 hd4 n7 n0 nL npn, q6⟩
    | brk => obtain ⟨_, _, _, z⟩ := hsp; exact z.elim
    | cont => obtain ⟨_, _, _, z⟩ := hsp; exact z.elim
    | ret u => obtain ⟨_, _, _, _, _, z⟩ := hsp; exact z.elim
  · cases f with
    | next =>
      obtain ⟨σ', H', J', q⟩ := hsp
      exact wpAny_execs_nil ⟨σ', H', J'.ofTry ok, q⟩
    | brk =>
      obtain ⟨σ', H', J', q⟩ := hsp
      exact ⟨σ', H', J'.ofTry ok, q⟩
    | cont =>
      obtain ⟨σ', H', J', q⟩ := hsp
      exact ⟨σ', H', J'.ofTry ok, q⟩
    | ret u =>
      obtain ⟨v, σ', H', J', r, q⟩ := hsp
      exact ⟨v, σ', H', J'.ofTry ok, r, q⟩
/-- isinstance(x, c): x None or a kept exception -/
def rIsX (K : PySem.W.Frag) : List V → Hp → VK → Prop := fun xs H Q => rIsi K xs H Q ∨ ∃ (a D : Addr) (c : V) (cv : Value) (b : Bool), xs = [.ref a, c] ∧ H a = some (ExK (.ref D) a) ∧ ExcC K D ∧ ClsV c cv ∧ PySem.W.kitOne K (.ref D) cv = some b ∧ Q (.bl b) H
theorem call_isX : CallR X (.builtin "isinstance") (rIsX X.K) := by
  intro pins s σ H xs us Q I r h
  rcases h with h | ⟨a, D, c, cv, b, rfl, ha, C, k, e, q⟩
  · exact call_isi pins s σ H xs us Q I r h
  obtain ⟨u1, u2, rfl, r1, r2⟩ := vals2 r
  cases (show u1 = Value.ref a from r1)
  have e2 := k.eq r2
  subst e2
  obtain ⟨⟨oe, vs, ho, hz, hd⟩, _, _⟩ := I.hok a _ ha
  have J : PySem.W.InstAt s.heap a oe D none := by
    obtain ⟨oc, od, oda, osl⟩ := oe
    obtain ⟨h1, h2⟩ := hz
    dsimp only at h1 h2 hd
    subst h1 h2 hd
    exact ⟨ho, rfl, rfl, trivial⟩
  exact PySem.W.kia_one (PySem.W.handS_kitx_exc C.hg C.hk C.hs C.hd C.ha C.hn C.ht C.hm) I.kIn J e (fun z => nomatch z) fun tk => ⟨.bl b, H, I.tok tk, rfl, q⟩
end
end Fw

/-! An own exception class over an own class over ValueError, whose __init__ says super().__init__('..') and stores one field. -/
namespace Fw
open PySem PySem.Spec L2
open PyProof.Rows
open PySem.Calls
/-- the wrapper that super().__init__ gives, called -/
theorem call_mwV {prog : Program} {w : World} {A : Around} {E : Value → Shared → Prop} {h : Heap} {g : Array GenState} {d : Drawn} {t : Nat} {os : OsState}
    {nm q : Str} {C N : Addr} {bs bm : List Value} {hdct : Bool} {sn : List Str} {sub : List Value} {ab : Bool} {col : Option Bool} {dd : Option Addr} {k0 k1 k2 k3 k5 : Option Value} {u e t0 : Addr} {rest : List Value} {Q : Value → Shared → Prop}
    (hC : h.get? C = some (excClassObj nm q C N bs bm hdct sn sub ab col dd k0 k1 k2 k3 k5 "ValueError.__new__")) (he : h.get? e = some (HandSPX.excO C t0)) (hu : h.get? u = some (PySem.W.kxs_mw "ValueError.__init__" e)) (hrest : rest.length ≤ sizeLine)
    (hq : ∀ h' t1, (∀ b o, b ≠ e → h.get? b = some o → h'.get? b = some o) → h'.get? e = some (HandSPX.excO C t1) → Q .none ⟨h', g, d, t, os⟩) :
    wpAny (model prog w) A (call (.ref u) rest) Q E ⟨h, g, d, t, os⟩ := by
  refine wpAny_call (codeAny_of_tree ?_)
  show wpAny _ A.in1 (callAny (.ref u) ⟨rest, []⟩) _ _ _
  simp only [callAny]
  refine wpAny_bind (wpAny_load hu ?_)
  simp only [PySem.W.kxs_mw, show (Value.type "method-wrapper" == Value.type "method" || Value.type "method-wrapper" == Value.type "builtin_function_or_method" || Value.type "method-wrapper" == Value.type "method-wrapper") = true by decide, if_true]
  refine PySem.W.KFB.if_so (by decide) ?_
  refine wpAny_bind (PySem.W.check_bound_init F.excBase_ValueError.toExcCallFacts hC he rfl ?_)
  refine wpAny_bind (wpAny_pure (wpAny_pure ?_))
  refine ⟨Code.quiet_builtin _ (by decide +kernel), codeAny_builtin F.excBase_ValueError.initEntry ?_⟩
  rw [Around.under_plainId F.excBase_ValueError.init.plain _]
  wp_walk
  refine hq _ h.objs.size (fun b o hb ho => ?_) ?_
  · rw [Heap.get?_update_other _ _ (Ne.symm hb)]
    exact Heap.get?_push_of_some _ ho
  · rw [Heap.get?_update_self _ (Heap.get?_push_of_some _ he) rfl]
    rfl
/-- what __init__ promises: the field f stored -/
def spSup (C : Addr) (f : Str) : Sp := fun vs H Q _ => ∃ (a : Addr) (y : V), vs = [.ref a, y] ∧ H a = some (exo a C none) ∧ ∀ dx, H dx = none → dx ≠ a → Q .non (upd (upd H dx (exd dx [(f, y)])) a (exo a C (some dx)))
/-- what the text says of the def and of its class -/
structure SupF (K : PySem.W.Frag) (P : Program) (qual : Str) (params : Arguments) (body : List Stmt) (scope : Scope) (C fI : Addr) (fd : FuncData) : Prop where
  T : OexC K C
  ex : ∃ (oc : Value) (od : Option Addr) (kV doc pm : Value) (an : Option Addr) (cda cc : Addr) (ct : Value) (osl : Array (Option Value)),
    fd = PySem.W.ksFn "__init__" qual params body scope .none kV doc pm an (.ref cda) ct cc ∧ K.lookup fI = some ⟨oc, od, .func fd, osl⟩ ∧ PySem.W.codeIn K (.ref cda) qual = true ∧
    (∃ ccl cdd vs ccs file tf, K.lookup cda = some ⟨ccl, cdd, .fields vs, ccs⟩ ∧ vs[2]? = some (.str file tf) ∧ ((P.main.file : Str) == file) = true) ∧
    ∃ cl cld csl, K.lookup cc = some ⟨cl, cld, .cell (some (.ref C)), csl⟩
  sub : PySem.W.mroIn K C (.ref C) = some true
  own : PySem.W.ks_superIn K C C "__init__" = some (some (.builtin "ValueError.__init__"))
  val : PySem.W.subIn K (.ref C) (.type "ValueError") = some true
  opq : PySem.W.nsIn K PySem.cStatics "thirdparty.any" = some none
  top : (P.main.scope.names.lookup ("super" : Str)).isSome = false
/-- a look at the scope: x the second parameter -/
structure SupS (x : Str) (params : Arguments) (scope : Scope) : Prop where
  kind : scope.kind = .function
  co : scope.isCoroutine = false
  gen : scope.isGenerator = false
  cell : ∀ y ∈ scope.names, y.2 ≠ .cell
  free : ∀ y, scope.names.lookup y = some .free → y = "__class__"
  sup : scope.names.lookup ("super" : Str) = some .globalImplicit
  cls : scope.names.lookup ("__class__" : Str) = some .free
  self : scope.names.lookup ("self" : Str) = some .local
  par : scope.names.lookup x = some .local
  ne : x ≠ "self"
  db : (x == ("__debug__" : Str)) = false
  cd : (x == ("__classdict__" : Str)) = false
  hd : ∃ ar, (params.posonlyargs ++ params.args).head? = some ar ∧ ar.arg = "self"
section
variable {P : Program} {w : World} {K : PySem.W.Frag} {mg : Str → Option Value} {base : Heap} {qual m f x : Str} {params : Arguments} {scope : Scope} {C fI : Addr} {fd : FuncData} {k j : Nat} {p0 p1 p2 p3 p4 p5 p6 p7 p8 p9 : Pos} {N : List Str}
theorem sup_ok (F : SupF K P qual params [.Expr (.Call (.Attribute (.Call (.Name "super" p0) [] [] p1) "__init__" p2) [.Constant (.str m) j p3] [] p4) p5, .Assign [.Attribute (.Name "self" p6) f p7] (.Name x p8) p9] scope C fI fd)
    (S : SupS x params scope) (hm : mg "super" = none) (hno : PySem.W.findIn K (.ref C) f = some none)
    {pl : Sem Bool} (hev : ∀ env : Env, eval (.Call (.Attribute (.Call (.Name "super" p0) [] [] p1) "__init__" p2) [.Constant (.str m) j p3] [] p4) env = (do
      let ov ← attributeBase (.Call (.Name "super" p0) [] [] p1) "__init__" env (eval (.Call (.Name "super" p0) [] [] p1) env)
      standAt p2.atName
      let (f, first) ← holding [ov] (getMethod ov "__init__" pl)
      callWith p4 f first (backTo p4 (starEach [Expr.Constant (.str m) j p3] env)) [])) : FnOk P w K mg base CX0 (k + 1) fI fd [("self" : Str), x] (spSup C f) := by
  refine ⟨fun vs H Q E h => ?_, fun A outer s H args us vs Q E hr e0 hb r hsp => ?_⟩
  · obtain ⟨a, y, rfl, _⟩ := h
    rfl
  obtain ⟨a, y, rfl, ea, q⟩ := hsp
  obtain ⟨u1, u2, rfl, ra, ry⟩ := vals2 r
  obtain rfl : u1 = Value.ref a := ra
  obtain ⟨T, ⟨oc, od, kV, doc, pm, an, cda, cc, ct, osl, rfl, lk, hcd, ⟨ccl, cdd, cvs, ccs, file, tf, lc, hvs, hfile⟩, cl, cld, csl, lcc⟩, hsub, hown, hval, hopq, htop⟩ := F
  have KX : K.In s.heap := e0.mod.kin.keeps fun b o e => (e0.bs b o e).1
  have lim : s.heap.NoLimit := e0.mod.nolimit.keeps fun b o e => (e0.bs b o e).1
  have nsl : (("self" : Str) == x) = false := by
    simp only [beq_eq_false_iff_ne, ne_eq]
    exact fun z => S.ne z.symm
  refine ks_codeAny_call_defAt hr.depth (KX _ _ lk) rfl lim (PySem.W.codeRec_of KX hcd) rfl hb S.cell (fun y hy => ?_) (fun h₀ hns hk => ?_) S.co S.gen S.kind
  · simp only [List.zip_cons_cons, List.mem_cons] at hy
    rcases hy with rfl | rfl | hy
    · exact S.self
    · exact S.par
    · cases hy
  have hl0 : ∀ {y : Str} {v : Value}, ([("self" : Str), x].zip [Value.ref a, u2]).reverse.lookup y = some v → True := fun _ => trivial
  have lself : ([("self" : Str), x].zip [Value.ref a, u2]).reverse.lookup ("self" : Str) = some (Value.ref a) := by
    show List.lookup ("self" : Str) [(x, u2), (("self" : Str), Value.ref a)] = _
    simp only [List.lookup, nsl]
    simp
  have lx : ([("self" : Str), x].zip [Value.ref a, u2]).reverse.lookup x = some u2 := by
    show List.lookup x [(x, u2), (("self" : Str), Value.ref a)] = _
    simp [List.lookup]
  let env : Env := PySem.W.ksEnv qual scope s.heap.objs.size fI (.ref cda) cc
  let X : Cx := { prog := P, w := w, K := K, mg := mg, base := base, A := A.deeper env, N := [("self" : Str), x], s_0 := s, H_0 := H, env := env, outer := outer, stack := env :: outer, ex := [], calm := true, fn := fun _ => false, pn := [], xe := fun e s' => wpAny (model P w) (A.deeper env) (leaving env e) (fun _ s'' => CR CX0 outer P w H s Q E (.error e) s'') (fun e' s'' => CR CX0 outer P w H s Q E (.error e') s'') s' }
  have cl1 : ∀ {y : Str} {c : Addr}, X.env.cells.lookup y = some c → y = "__class__" ∧ c = cc := fun {y c} e => by
    have e : List.lookup y [(("__class__" : Str), cc)] = some c := e
    by_cases hy : y = "__class__"
    · subst hy
      simp [List.lookup] at e
      exact ⟨rfl, e.symm⟩
    · have : (y == ("__class__" : Str)) = false := by simpa using hy
      simp [List.lookup, this] at e
  have noX : ∀ b : Addr, b ∉ X.ex := fun b z => absurd (show b ∈ ([] : List Addr) from z) (by simp)
  have I : Inv X [] [some (.ref a), some y] H { s with heap := h₀, toks := s.toks + ([("self" : Str), x].zip [Value.ref a, u2]).length } := by
    refine ⟨⟨e0.mod, S.kind, rfl, rfl, Nat.le_refl _, fun y z c h1 h2 => ?_, fun y hy => ?_, fun y c z _ => (by cases z), fun _ => (hr.deeper env).hd, Around.frames_deeper e0.frames, .inr ⟨rfl, rfl⟩, fun b z => absurd z (noX b), e0.bs, e0.bsz, fun b _ _ => noX b, fun b z => absurd z (noX b), e0.funs, e0.frf⟩,
      rfl, e0.bare, Un.kept hk, ⟨_, hns, fun i z v h1 h2 h3 => ?_⟩, fun y c h => ?_, e0.hok.fresh (Nat.le_refl _), fun y c h => ?_, fun p hp => absurd (show p ∈ ([] : List (Addr × Obj)) from hp) (by simp), e0.hok.kept hk, rfl⟩
    · rw [(cl1 h1).1, (cl1 h2).1]
    · rcases hy with hy | hy
      · exact absurd rfl (S.cell _ (PySem.mem_of_lookup (show scope.names.lookup y = some .cell from hy)))
      · rw [S.free y hy]
        exact ⟨cc, rfl⟩
    · match i, h1, h2 with
      | 0, h1, h2 =>
        cases h1; cases h2
        exact ⟨.ref a, rfl, .inl ⟨S.self, lself⟩⟩
      | 1, h1, h2 =>
        cases h1; cases h2
        exact ⟨u2, ry, .inl ⟨S.par, lx⟩⟩
      | n + 2, h1, h2 => cases h2
    · rw [(cl1 h).2]
      exact ⟨_, _, hk _ _ (KX _ _ lcc), rfl⟩
    · rw [(cl1 h).2]
      exact (e0.bs _ _ (e0.mod.kin _ _ lcc)).2
  obtain ⟨nm, qn, N', bs, bm, sn, sub, ab, col, dd, k0, k1, k2, k3, k5, hC, hbm⟩ := T.cls
  have hcl : PySem.W.clsIn K C = some { name := nm, bases := bs, mro := .ref C :: bm, ns := N', qualname := qn, hasDict := true, slotNames := sn, subclasses := sub, abstract := ab, collection := col, hasDel := false } := by unfold PySem.W.clsIn; rw [hC] <;> rfl
  obtain ⟨t1, ho⟩ := exo_at I.hok ea
  have X1 : K.In h₀ := I.kIn
  have fin : ∀ {σ' : L2.St} {H' : Hp} {v : V} {u : Value} {s' : Shared}, Inv X [] σ' H' s' → RelV v u → Q v H' → CE outer P w H s Q u s' := fun {σ' H' v u s'} J rv q => ⟨v, H', J.os, J.bare, J.base, J.hok, rv, q⟩
  have nC : a ≠ C := fun z => by
    have e := X1 _ _ hC
    rw [← z, ho] at e
    have e := congrArg Obj.data (Option.some.inj e)
    cases e
  refine ks_wpAt_execs_cons (ks_wpAt_Expr_any (env := env) (ks_wpAt_MethodCall (env := env) (ks_wpAt_super_base (env := env) S.sup S.cls (by decide) rfl (X1 _ _ lk) rfl S.hd.choose_spec.1 rfl (X1 _ _ lc) rfl hvs hfile htop ?_) (hev env)) ?hi ?hs)
  case hi => show (scope.kind == _ && _) = false; rw [S.kind]; rfl
  case hs => rfl
  obtain ⟨mb, hb1, hb2⟩ := I.mod.blt
  refine PySem.W.ks_loadName_global (env := env) S.kind S.sup (loadGlobal_builtin (env := env) (I.mod.glob.keeps I.bk) hm (hb1.keeps I.bk) ((hb2 "super" (by decide)).trans (show bootBuiltins "super" = some (.type "super") by first | rfl | kernel_rfl)) ⟨rfl, ?_⟩)
  refine wpAny_loadName_free (env := env) S.kind S.cls rfl ⟨_, X1 _ _ lcc, rfl⟩ ?_
  refine wpAny_loadName_local (env := env) (v := .ref a) S.kind (by rw [S.hd.choose_spec.2]; exact S.self) hns (by rw [S.hd.choose_spec.2]; exact lself) ?_
  refine ks_wpAny_isType_cls (X1 _ _ hC) rfl ⟨rfl, ?_⟩
  refine ks_wpAny_call_super (X1 _ _ hC) rfl ho rfl (fun c e => by cases e) (PySem.W.looks_mroIn X1 hsub) (fun h1 eso k1 => ?_)
  have X2 : K.In h1 := X1.keeps k1
  refine PySem.W.kxs_getMethod PySem.W.kxs_ValueError eso (PySem.W.looks_opaque X2 hopq) (l₀ := .ref C :: bm) (fun A Q E s k q => wpAny_bind ((PySem.W.looks_clsIn X2 hcl) A _ E s k (wpAny_pure q))) rfl X2 (by unfold PySem.W.ks_superIn at hown; rw [hcl] at hown; exact hown) ?_ nC (by decide) ?_
  · have J : PySem.W.InstAt h1 a { cls := .ref C, data := .fields #[.ref t1, .none, .none, .none, .bool false, .none] } C none := ⟨k1 _ _ ho, rfl, rfl, trivial⟩
    exact J.type.andThen (PySem.W.looks_subIn X2 hval)
  have I1 : Inv X [] [some (.ref a), some y] H ⟨h1.push (PySem.W.kxs_mw "ValueError.__init__" a), s.gens, s.drawn, s.toks + ([("self" : Str), x].zip [Value.ref a, u2]).length + 1, s.os⟩ := I.kept fun b o e => Heap.get?_push_of_some _ (k1 b o e)
  have hu : (h1.push (PySem.W.kxs_mw "ValueError.__init__" a)).get? h1.objs.size = some (PySem.W.kxs_mw "ValueError.__init__" a) := Heap.get?_push_at rfl rfl
  have sz : h₀.objs.size ≤ h1.objs.size := Nat.le_of_lt (Heap.lt_size eso)
  have I2 : Inv X [(h1.objs.size, PySem.W.kxs_mw "ValueError.__init__" a)] [some (.ref a), some y] H ⟨h1.push (PySem.W.kxs_mw "ValueError.__init__" a), s.gens, s.drawn, s.toks + ([("self" : Str), x].zip [Value.ref a, u2]).length + 1, s.os⟩ := I1.pins_of fun p hp => by
    obtain rfl := List.mem_singleton.mp hp
    refine ⟨hu, I.hok.fresh sz, fun z => ?_, I.nofs sz, fun v z => by cases z⟩
    exact absurd (show h₀.objs.size ≤ X.env.locals from (show h1.objs.size = X.env.locals from z) ▸ sz) (Nat.not_le.mpr I.lt)
  have he : starEach [Expr.Constant (.str m) j p3] env = (false, eval (.Constant (.str m) j p3) env) :: starEach [] env := rfl
  show wpAny _ _ (callWith p4 (.ref h1.objs.size) [] (backTo p4 (starEach [Expr.Constant (.str m) j p3] env)) []) _ _ _
  rw [he]
  refine PySem.W.kxs_callWith (i := "ValueError.__init__") (x := a) rfl (evalArgs_plain ?_)
  have ha : PA X [.Constant (.str m) j p3] (tCons (tC (.str m)) tNil) := pa_cons pe_str pa_nil
  show wpAny _ _ (spliced (backTo p4 (starEach [Expr.Constant (.str m) j p3] env))) _ _ _
  refine thn (ha.run p4 [(h1.objs.size, PySem.W.kxs_mw "ValueError.__init__" a)] _ _ H (fun vs H1 => vs = [V.str m] ∧ H = H1) I2 ⟨rfl, rfl⟩) fun us s1 hh => ?_
  obtain ⟨ws, H1, I3, r1, ews, eH⟩ := hh
  subst ews
  rw [← eH] at I3
  have hu3 := (I3.pin _ (List.mem_append_right _ List.mem_cons_self)).1
  refine ⟨hu3, ?_⟩
  obtain ⟨t3, ho3⟩ := exo_at I3.hok ea
  have hlen : us.length ≤ sizeLine := by
    rw [← r1.length, sizeLine_eq]
    show 1 ≤ _
    omega
  obtain ⟨hp, g, dr, tk, os⟩ := s1
  refine call_mwV (I3.kIn _ _ hC) ho3 hu3 hlen fun h4 t4 k4 ho4 => ?_
  have J := I3.write (t' := tk) (x := a) (e := a) (o := exo a C none) (by rw [ea]; exact True.intro) (.inl rfl) k4 ⟨_, ho4⟩ (exo_ok ho4)
  have eu : upd H a (exo a C none) = H := by
    funext b
    by_cases hb : b = a
    · rw [hb, upd_same, ea]
    · rw [upd_ne hb]
  rw [eu] at J
  have J : Inv X [] [some (.ref a), some y] H ⟨h4, g, dr, tk, os⟩ := J.pins_of (pins' := []) fun p hp => nomatch hp
  show _root_.PySem.wpAt _ _ _ _ _ _ _
  refine wpAt_of_wpAny ?_
  have ps : PSs X [.Assign [.Attribute (.Name "self" p6) f p7] (.Name x p8) p9] (tOst K f (tVar 0) (tVar 1)) := pss_one (ps_ost (pe_var (i := 0) rfl (.inl S.self)) (pe_var (i := 1) rfl (.inl S.par) S.db S.cd))
  refine wpAny_mono (ps.run [] ⟨h4, g, dr, tk, os⟩ _ H { nx := fun _ H' => Q .non H', rt := fun _ _ => False, bk := fun _ _ => False, ct := fun _ _ => False } J ⟨y, rfl, .ref a, rfl, a, C, rfl, T, hno, .inl ⟨ea, fun dx hdx ne => q dx hdx ne⟩⟩) (fun fl s' hs => ?_) fun e s' hs => hs
  cases fl with
  | ret u =>
    obtain ⟨_, _, _, _, _, z⟩ := hs
    exact False.elim z
  | next =>
    obtain ⟨σ', H', J2, q2⟩ := hs
    exact fin (v := V.non) (u := Value.none) J2 rfl q2
  | brk =>
    obtain ⟨_, _, _, z⟩ := hs
    exact False.elim z
  | cont =>
    obtain ⟨_, _, _, z⟩ := hs
    exact False.elim z
end
end Fw

/-! Own exceptions with a field: raised, caught, kept, asked. -/
namespace Fw
open PySem PySem.Spec L2
open PyProof.Rows
/-- an exception object of the class cls, d its dict -/
def ExD (cls : Value) (d : Option Addr) (a : Addr) : HO := .ext fun h => ∃ (oe : Obj) (vs : Array Value), h.get? a = some oe ∧ Zc cls d oe ∧ oe.data = .fields vs
theorem exD_ok {P : Program} {w : World} {H : Hp} {h : Heap} {a : Addr} {cls : Value} {d : Option Addr} {oe : Obj} {vs : Array Value} (e : h.get? a = some oe) (z : Zc cls d oe) (hd : oe.data = .fields vs) : ObjOk P w H h a (ExD cls d a) :=
  ⟨⟨oe, vs, e, z, hd⟩, ⟨oe, e⟩, fun _ _ ⟨o, v, q, r⟩ k => ⟨o, v, k o q, r⟩⟩
section
variable {X : Cx} {pins : List (Addr × Obj)} {σ : L2.St} {H : Hp} {s : Shared}
/-- what stands in the heap, new since the entry, is tracked from here on -/
theorem Inv.trackD {a : Addr} {cls : Value} {d : Option Addr} {oe : Obj} {vs : Array Value} (I : Inv X pins σ H s) (ha : s.heap.get? a = some oe) (z : Zc cls d oe) (hd : oe.data = .fields vs) (na : H a = none) (n0 : X.s_0.heap.get? a = none) (nL : a ≠ X.env.locals) (np : ∀ p ∈ X.pn ++ pins, p.1 ≠ a) : Inv X pins σ (upd H a (ExD cls d a)) s := by
  have ne0 : ∀ b o, X.s_0.heap.get? b = some o → b ≠ a := fun b o e q => by rw [q, n0] at e; cases e
  have nc : ∀ x c, X.env.cells.lookup x = some c → c ≠ a := fun x c e q => by
    obtain ⟨v, o, e1, e2⟩ := I.cell x c e
    rw [q, ha] at e1
    cases e1
    rw [hd] at e2
    cases e2
  have keepT : ∀ {b : Addr} {u : HO}, H b = some u → upd H a (ExD cls d a) b = some u := fun {b u} e => by rw [upd_ne (ne_of_none e na)]; exact e
  refine ⟨I.ok, I.os, I.bare, ⟨I.base.keep, I.base.slot, fun b o e n hx => ?_, I.base.there, fun b xs e => keepT (I.base.tups b xs e), fun b o u e => keepT (I.base.frzs b o u e), fun b ps e => ?_⟩, I.loc, I.cell, ?_, fun x c e => ?_, fun p hp => ?_, HOk.laidN I.hok (fun _ _ q => q) na (exD_ok ha z hd), I.len⟩
  · rw [upd_ne (ne0 b o e)]; exact I.base.free b o e n hx
  · obtain ⟨m, q⟩ := I.base.tbls b ps e
    exact ⟨m, keepT q⟩
  · rw [upd_ne (Ne.symm nL)]; exact I.free
  · rw [upd_ne (nc x c e)]; exact I.freeC x c e
  · obtain ⟨h1, h2, h3⟩ := I.pin p hp
    exact ⟨h1, by rw [upd_ne (np p hp)]; exact h2, h3⟩
end
/-- what the clause 'except x as n' wishes, if the caught one is kept by the suite: slot i is n's -/
def wKeepD (K : PySem.W.Frag) (c : Value) (i : Nat) (ts : Addr → TS) (D : Ends) : WX := fun cls d σ H =>
  PySem.W.exmOne K cls c = some true ∧ ∀ a, H a = none → ts a { nx := fun σ' H' => D.nx (σ'.set i none) (upd H' a (ExD cls d a)), rt := fun _ _ => False, bk := fun _ _ => False, ct := fun _ _ => False } (σ.set i (some (.ref a))) H
section
variable {X : Cx} {x n : Str} {c : Value} {i : Nat} {body suite : List Stmt} {b₀ : Stmt} {np pos pos' : Pos} {tb : WX → TS} {ts : Addr → TS}
theorem ps_try_keepD (hs : X.stack = X.env :: X.outer) (hf : X.env.frame = some X.env.locals) (hx : X.ex = []) (hN : X.N.Nodup) (hi : X.N[i]? = some n) (hln : X.env.kindOf n = some .local) (hc : Names X x c)
    (hb : ∀ (W : WX) (pn : List (Addr × Obj)) (xe : Value → Shared → Prop), Takes (X.tr pn xe) W → PSs (X.tr pn xe) body (tb W))
    (hsu : ∀ (a : Addr) (oe : Obj) (pn : List (Addr × Obj)), PSs (X.suite a ((a, oe) :: pn)) (b₀ :: suite) (ts a)) :
    PS X (.Try body [.ExceptHandler (some (.Name x np)) (some n) (b₀ :: suite) pos'] [] [] pos) (fun D σ H => tb (wKeepD X.K c i ts D) D σ H) := by
  refine ⟨fun pins s σ H D I h => ?_⟩
  have ok := I.ok
  have hfr : X.A.frames = some (X.env :: X.outer) := by rw [ok.frames, hs]
  have hloc : Loc X.env.scope n := .inl hln
  refine wpAny_Try_except ?_
  refine wpAny_mono ((hb (wKeepD X.K c i ts D) (X.pn ++ pins) (fun e s₁ => wpAny (model X.prog X.w) X.A (noteFrame e X.env) (fun _ s₂ => wpAny (model X.prog X.w) X.A (setFlight e none) (fun _ s₃ =>
    wpAny (model X.prog X.w) X.A (handleBy e X.env [.ExceptHandler (some (.Name x np)) (some n) (b₀ :: suite) pos']) (SP X pins D) X.xe s₃) X.xe s₂) X.xe s₁) (fun u s' xx => ?_)).run [] s σ H D (I.toTry _) h) (fun f s1 hsp => ?_) (fun e s1 he => he)
  · obtain ⟨a, B, sI, pins', σ', H', cls, d, rfl, J', nb, up, sky, na, os, ag, hb1, hyes⟩ := xx
    have J : Inv X pins σ' H' sI := J'.ofTry ok
    have sky' : Sky B (X.env :: X.outer) a (Zc cls d) X.env.locals s'.heap := by rw [← hs]; exact sky
    show wpAny (model X.prog X.w) X.A (noteFrame (.ref a) X.env) _ _ _
    refine Sky.land Zc.steady hfr hf sky' fun h3 fl3 up3 => ?_
    have J3 : Inv X pins σ' H' { s' with heap := h3 } := J.landed nb fl3.1 (up.trans up3) os ag
    obtain ⟨oe3, vs3, he3, hz3, hd3⟩ := fl3.there
    have nfr : a ∉ frs (X.env :: X.outer) := fun hm => by
      obtain ⟨_, o', e', hnf⟩ := fl3.2.2.1.mem hm
      rw [he3] at e'; cases e'
      exact hnf _ hd3
    have nL : a ≠ X.env.locals := fun z => nfr (List.mem_filterMap.mpr ⟨X.env, List.mem_cons_self, by rw [hf, z]⟩)
    have nF : a ∉ X.fs := fun hm => by
      obtain ⟨e, he, q⟩ := List.mem_filterMap.mp hm
      exact nfr (List.mem_filterMap.mpr ⟨e, List.mem_cons_of_mem _ he, q⟩)
    -- it is new since the entry
    have nI : sI.heap.get? a = none := by
      cases q : sI.heap.get? a with
      | none => rfl
      | some o =>
        have z := nb a o q (by rw [hs]; exact nfr)
        rw [fl3.2.1] at z; cases z
    have n0 : X.s_0.heap.get? a = none := by
      cases q : X.s_0.heap.get? a with
      | none => rfl
      | some o =>
        obtain ⟨o', z⟩ := J.base.there a o q (by rw [hx]; exact fun z => nomatch z)
        rw [nI] at z; cases z
    have npn : ∀ p ∈ X.pn ++ pins, p.1 ≠ a := fun p hp q => by
      have z := (J.pin p hp).1
      rw [q, nI] at z; cases z
    have S3 := J3.suite he3 hd3 na nL nF
    refine wpAny_handleBy_cons (codeAny_handlers_test ?_) (by intro q; cases q)
    have LT : PySem.W.Looks (model X.prog X.w) h3 (typeOf (.ref a)) cls := fun A Q E s k q => wpAny_typeOf_ref (k _ _ he3) (by rw [hz3.1]; exact q)
    have LM := PySem.W.exm_one (M := model X.prog X.w) (J3.kIn) LT hb1
    have test : ∀ {Q : Value → Shared → Prop} {E : Value → Shared → Prop}, Q c { s' with heap := h3 } → wpAny (model X.prog X.w) (X.A.mark (some (.ref a))) (eval (.Name x np) X.env) Q E { s' with heap := h3 } := fun {Q E} q => by
      obtain ⟨hg, hdbg, hm | ⟨hm, hv, hnn⟩⟩ := hc
      · exact ld_glob (X := X.suite a ((a, oe3) :: (X.pn ++ pins))) S3 hg hm q hdbg
      · exact ld_blt (X := X.suite a ((a, oe3) :: (X.pn ++ pins))) S3 hg hm hv q hnn hdbg
    refine test (LM.here ?_)
    refine codeAny_handlers_suite_as ?_
    refine HandSPX.lands_againZ fl3 fun h4 fl4 up4 => ?_
    have J4 : Inv X pins σ' H' { s' with heap := h4 } := J.landed nb fl4.1 ((up.trans up3).trans up4) os ag
    obtain ⟨oe4, vs4, he4, hz4, hd4⟩ := fl4.there
    have S4 := J4.suite he4 hd4 na nL nF
    refine store_ok (X := X.suite a ((a, oe4) :: (X.pn ++ pins))) (v := .ref a) S4 hN hi hloc rfl (fun s5 S5 => ?_) (.inr hln)
    refine wpAny_mono ((hsu a oe4 (X.pn ++ pins)).run [] s5 _ H' _ S5 (hyes a na)) (fun f s6 hsp => ?_) (fun _ _ z => False.elim z)
    cases f with
    | next =>
      obtain ⟨σ6, H6, S6, q6⟩ := hsp
      refine gone_ok (X := X.suite a ((a, oe4) :: (X.pn ++ pins))) S6 hN hi hln fun s7 S7 => ?_
      obtain ⟨ea, n7, _⟩ := S7.pin (a, oe4) (List.mem_append_left _ List.mem_cons_self)
      exact ⟨_, _, Inv.trackD (S7.unsuite ok) ea hz4 hd4 n7 n0 nL npn, q6⟩
    | brk => obtain ⟨_, _, _, z⟩ := hsp; exact z.elim
    | cont => obtain ⟨_, _, _, z⟩ := hsp; exact z.elim
    | ret u => obtain ⟨_, _, _, _, _, z⟩ := hsp; exact z.elim
  · cases f with
    | next =>
      obtain ⟨σ', H', J', q⟩ := hsp
      exact wpAny_execs_nil ⟨σ', H', J'.ofTry ok, q⟩
    | brk =>
      obtain ⟨σ', H', J', q⟩ := hsp
      exact ⟨σ', H', J'.ofTry ok, q⟩
    | cont =>
      obtain ⟨σ', H', J', q⟩ := hsp
      exact ⟨σ', H', J'.ofTry ok, q⟩
    | ret u =>
      obtain ⟨v, σ', H', J', r, q⟩ := hsp
      exact ⟨v, σ', H', J'.ofTry ok, r, q⟩
/-- isinstance(x, c): x of any kind or a kept exception -/
def rIsD (K : PySem.W.Frag) : List V → Hp → VK → Prop := fun xs H Q => rIsi K xs H Q ∨ ∃ (a D : Addr) (d : Option Addr) (c : V) (cv : Value) (b : Bool), xs = [.ref a, c] ∧ H a = some (ExD (.ref D) d a) ∧ (∀ dx, d = some dx → ∃ fs, H dx = some (.xd fs)) ∧ ExcC K D ∧ ClsV c cv ∧ PySem.W.kitOne K (.ref D) cv = some b ∧ Q (.bl b) H
theorem call_isD : CallR X (.builtin "isinstance") (rIsD X.K) := by
  intro pins s σ H xs us Q I r h
  rcases h with h | ⟨a, D, d, c, cv, b, rfl, ha, hd, C, k, e, q⟩
  · exact call_isi pins s σ H xs us Q I r h
  obtain ⟨u1, u2, rfl, r1, r2⟩ := vals2 r
  cases (show u1 = Value.ref a from r1)
  have e2 := k.eq r2
  subst e2
  obtain ⟨⟨oe, vs, ho, hz, hdt⟩, _, _⟩ := I.hok a _ ha
  obtain ⟨od, J⟩ : ∃ od, PySem.W.InstAt s.heap a oe D od := by
    cases d with
    | none => exact ⟨none, ho, hz.1, by unfold PySem.W.notCls; rw [hdt] <;> rfl, by rw [hz.2]; trivial⟩
    | some dx =>
      obtain ⟨fs, hx⟩ := hd dx rfl
      have hx : ObjOk X.prog X.w H s.heap dx (.xd fs) := I.hok dx _ hx
      obtain ⟨mA, hns, _⟩ := hx
      obtain ⟨od, hod, _⟩ := lookIn_ns hns
      exact ⟨some od, ho, hz.1, by unfold PySem.W.notCls; rw [hdt] <;> rfl, by rw [hz.2]; exact hod⟩
  have hcl : (PySem.W.clsIn X.K D).isSome = true := by
    obtain ⟨cd, hc, _⟩ := PySem.W.any_some C.hd
    rw [hc]
    rfl
  exact PySem.W.kia_one (PySem.W.kitx_exc (od := od) hcl C.hg C.hk C.hs C.ha C.hn C.ht C.hm) I.kIn J e (fun z => nomatch z) fun tk => ⟨.bl b, H, I.tok tk, rfl, q⟩
/-- e.f, e a kept exception -/
def tXk (K : PySem.W.Frag) (f : Str) (te : TE) : TE := fun σ H Q => te σ H fun x H1 => ∃ (a C dd : Addr) (fs : List (Str × V)) (v : V), x = .ref a ∧ H1 a = some (ExD (.ref C) (some dd) a) ∧ ExcC K C ∧ PySem.W.findIn K (.ref C) f = some none ∧ H1 dd = some (.xd fs) ∧ fs.lookup f = some v ∧ Q v H1
theorem pe_xk {e : Expr} {te : TE} {f : Str} {pos : Pos} (he : PE X e te) (hb : attributeBase e f X.env (eval e X.env) = eval e X.env := by rfl) : PE X (.Attribute e f pos) (tXk X.K f te) := by
  refine ⟨fun pins s σ H Q I h => ?_⟩
  refine attr_of hb (thn (he.run pins s σ H _ I h) fun u s1 hh => ?_)
  obtain ⟨x, H1, I1, rx, a, C, dd, fs, v, ex, ha, T, hno, ed, l, q⟩ := hh
  subst ex
  obtain rfl : u = Value.ref a := rx
  obtain ⟨⟨oe, vs, ho, hz, hdt⟩, _, _⟩ := I1.hok a _ ha
  have hx : ObjOk X.prog X.w H1 s1.heap dd (.xd fs) := I1.hok dd _ ed
  obtain ⟨mA, hns, hr⟩ := hx
  obtain ⟨od, hod, hl⟩ := lookIn_ns hns
  obtain ⟨u, hu, ru⟩ := RelO.some_of (v := v) (o := mA f) (by rw [← l]; exact hr f)
  have J : PySem.W.InstAt s1.heap a oe C (some od) := ⟨ho, hz.1, by unfold PySem.W.notCls; rw [hdt] <;> rfl, by rw [hz.2]; exact hod⟩
  exact HandSPX.exc_get I1.kIn J T.hg T.hk T.hs (PySem.W.findObj_own T.hd hno rfl (by rw [hl, hu])) (handed_of ru) ⟨v, H1, I1.tok _, ru, q⟩
end
end Fw

/-! Draws out of any source; the source of cells and digits. -/
namespace Fw
open PySem L2
open PyProof.Rows (envOfC)
section
variable {K : PySem.W.Frag} {α : Type} {U : α → Wd} {rt : α → Addr} {ms : List Addr} {B : Bs} {H H' : Hp} {ρ : List Sl} {σ : L2.St} {i : Nat}
def spU (K : PySem.W.Frag) (U : α → Wd) (rt : α → Addr) (Pre : List PyData → Prop) (Φ : List PyData → PyData → Prop) : Sp := fun vs H Q _ => ∃ (A : α) (ms : List Addr) (ds : List PyData) (ws : List V), vs = .ref (rt A) :: ws ∧ (∀ a ∈ (U A).ws, a ∈ ms) ∧ Live ms H ∧ (U A).P H ∧ (U A).C (cut ms H) ∧ DpAll K (cut ms H) ws ds ∧ Pre ds ∧
  ∀ d v H', Φ ds d → XW (U A).ws H H' → Live ms H' → (U A).P H' → Dp K (cut ms H') v d → Q v H'
theorem en_callU {A : α} {Pre : List PyData → Prop} {Φ : List PyData → PyData → Prop} {Ψ : List PyData → Prop} {ta : TA} {E : XK} (h : ρ[i]? = some (.raw (.ref (rt A)))) (ha : EnD K (U A) ta ρ Ψ) (hp : ∀ ds, Ψ ds → Pre ds) : En K (U A) (tCall (spU K U rt Pre Φ) [] E (tCons (tVar i) ta)) ρ (IsD fun d => ∃ ds, Ψ ds ∧ Φ ds d) := fun ms B σ H a Q q => by
  obtain ⟨v, e, o⟩ := a.env.get h (by intro q; cases q)
  obtain rfl : v = .ref (rt A) := o
  refine ⟨_, e, ha ms B σ H a _ fun ds ws H1 ψ h1 x1 o1 => ?_⟩
  show spU K U rt Pre Φ ((.ref (rt A) :: ws) ++ []) H1 Q E
  rw [List.append_nil]
  exact ⟨A, ms, ds, ws, rfl, h1.sub, h1.live, h1.p, h1.c, o1, hp ds ψ, fun d v H2 φ x2 l2 p2 o2 => q (.dat d) v H2 ⟨d, rfl, ds, ψ, φ⟩ (h1.go x2 l2 p2) (x1.trans x2) o2⟩
def RunsU (K : PySem.W.Frag) (U : α → Wd) (t : TS) (ρ : α → List Sl) (Φ : PyData → Prop) : Prop :=
  ∀ (A : α) (ms : List Addr) (σ : L2.St) (H : Hp) (Q : VK), At K (U A) ms ⟨H, H⟩ (ρ A) σ H → (∀ d v H', Φ d → At K (U A) ms ⟨H, H⟩ [] [] H' → Dp K (cut ms H') v d → Q v H') → t { nx := fun _ H' => Q .non H', rt := Q } σ H
section
variable {P : Program} {w : World} {mg : Str → Option Value} {base : Heap}
theorem drawOkU {x qual : Str} {st : Stmt} {f : Addr} {fd : FuncData} {N ps : List Str} {k : Nat} {Pre : List PyData → Prop} {Φ : List PyData → PyData → Prop} (F : Fun K x qual st f fd) (S : FnScope N ps (defScope st)) (hG : ∀ ds, Pre ds → ds.length + 1 = ps.length)
    (hb : ∀ (cdv : Value) (A : Around) (outer : List Env) (s : Shared) (H : Hp) (E : XK), Room k (A.deeper (envOfC qual (defScope st) s.heap.objs.size f cdv)) →
      ∃ t, PSs (cxOf CX0 P w K mg base N qual (defScope st) f cdv A outer s H E).nox (defBody st) t ∧ ∀ ds, Pre ds → RunsU K U t (fun A => .raw (.ref (rt A)) :: (ds.map .dat ++ List.replicate (N.length - (ds.length + 1)) .emp)) (Φ ds)) : FnOk P w K mg base CX0 (k + 1) f fd ps (spU K U rt Pre Φ) := by
  refine F.ok S (fun vs H Q E h => ?_) fun cdv A outer s H vs Q E hr h => ?_
  · obtain ⟨A, ms, ds, ws, rfl, _, _, _, _, o, p, _⟩ := h
    rw [List.length_cons, dpa_len o, hG ds p]
  · obtain ⟨A2, ms, ds, ws, rfl, sub, l, p, c, o, pre, q⟩ := h
    obtain ⟨t, ht, hr⟩ := hb cdv A outer s H E hr
    refine ⟨t, ht, hr ds pre A2 ms _ H Q ⟨sub, l, ?_, p, .refl H, Same.refl _, c⟩ fun d v H' φ a od => q d v H' φ a.xw a.live a.p od⟩
    have e : L2.start N (.ref (rt A2) :: ws) = some (.ref (rt A2)) :: (ws.map some ++ List.replicate (N.length - (ds.length + 1)) none) := by
      unfold L2.start
      rw [List.map_cons, List.length_cons, dpa_len o]
      rfl
    rw [e]
    exact env_argsN o
end
end
/-! ### cells, digits, a count -/
structure SeA where
  d : Addr
  l : Addr
  c : Addr
  cells : List Int
  ne : d ≠ l
  pos : 0 < cells.length
  few : cells.length ≤ 1000
def seKv (A : SeA) (t : Int) : List (Key × V) := [(.inr "cells", .ref A.c), (.inr "digits", .ref A.l), (.inr "count", .int t)]
def seAt (A : SeA) (dg : List Int) (t : Int) (H : Hp) : Prop := dg.length = A.cells.length ∧ H A.d = some (.dK (seKv A t)) ∧ H A.l = some (.lst (dg.map .int))
def SW (K : PySem.W.Frag) (A : SeA) : Wd where
  ws := [A.d, A.l]
  P := fun H => ∃ dg t, seAt A dg t H
  sup := fun H H' k _ ⟨dg, t, h0, h1, h2⟩ => ⟨dg, t, h0, k _ (by simp) _ h1, k _ (by simp) _ h2⟩
  C := fun H => Dp K H (.ref A.c) (.list (A.cells.map .int))
  mono := fun H H' s h => dp_mono s _ _ h
theorem str_cd : ¬ (("cells" : Str) = "digits") := by decide +kernel
theorem str_cn : ¬ (("cells" : Str) = "count") := by decide +kernel
theorem str_dn : ¬ (("digits" : Str) = "count") := by decide +kernel
theorem get_seC (A : SeA) (t : Int) : valV (seKv A t) (.inr "cells") = some (.ref A.c) := by simp [valV, seKv]
theorem get_seD (A : SeA) (t : Int) : valV (seKv A t) (.inr "digits") = some (.ref A.l) := by simp [valV, seKv, str_cd, List.find?_cons]
theorem get_seN (A : SeA) (t : Int) : valV (seKv A t) (.inr "count") = some (.int t) := by simp [valV, seKv, str_cn, str_dn, List.find?_cons]
theorem put_seN (A : SeA) (t z : Int) : putK (seKv A t) (.inr "count") (.int z) = seKv A z := by simp [putK, seKv, str_cn, str_dn]
section
variable {K : PySem.W.Frag} {A : SeA} {ms : List Addr} {B : Bs} {H H' : Hp} {ρ : List Sl} {σ : L2.St} {i : Nat} {D : Ends} {ta tb te ti tv : TE} {tz : TS}
theorem At.se (h : At K (SW K A) ms B ρ σ H) {a : Addr} {o : HO} (ha : a ∈ [A.d, A.l]) (p : ∃ dg t, seAt A dg t (upd H a o)) : At K (SW K A) ms B ρ σ (upd H a o) := by
  have hm : a ∈ ms := h.sub a ha
  refine ⟨h.sub, h.live.upd, h.env.mono (cut_put (.inl hm)), p, fun b u n e => ?_, h.st.trans (cut_put (.inl hm)), dp_mono (cut_put (.inl hm)) _ _ h.c⟩
  rw [upd_ne (fun q => by subst q; exact n ha)]
  exact h.xw b u n e
theorem en_seN (h : ρ[i]? = some (.raw (.ref A.d))) : En K (SW K A) (tDGet (tVar i) (tC (.str "count"))) ρ (IsI fun _ => True) := fun ms B σ H a Q q => by
  obtain ⟨v, e, o⟩ := a.env.get h (by intro q; cases q)
  obtain rfl : v = .ref A.d := o
  obtain ⟨dg, t, e0, e1, e2⟩ := a.p
  have g := DGet.k (k := Sum.inr "count") e1
  rw [get_seN] at g
  exact ⟨_, e, A.d, .int t, rfl, g, q (.dat (.int t)) _ H ⟨_, rfl, trivial⟩ a (.refl H) (.int _)⟩
theorem ev_seC (h : ρ[i]? = some (.raw (.ref A.d))) : Evd K (SW K A) (tDGet (tVar i) (tC (.str "cells"))) ρ (.list (A.cells.map .int)) := fun ms B σ H a Q q => by
  obtain ⟨v, e, o⟩ := a.env.get h (by intro q; cases q)
  obtain rfl : v = .ref A.d := o
  obtain ⟨dg, t, e0, e1, e2⟩ := a.p
  have g := DGet.k (k := Sum.inr "cells") e1
  rw [get_seC] at g
  exact ⟨_, e, A.d, .ref A.c, rfl, g, q _ H a (.refl H) a.c⟩
theorem en_seD {m : Nat} (h : ρ[i]? = some (.raw (.ref A.d))) (hi : Evd K (SW K A) ti ρ (.int (m : Int))) (hm : m < A.cells.length) : En K (SW K A) (tOp (rIxL K) (tDGet (tVar i) (tC (.str "digits"))) ti) ρ (IsI fun _ => True) := fun ms B σ H a Q q => by
  obtain ⟨v, e, o⟩ := a.env.get h (by intro q; cases q)
  obtain rfl : v = .ref A.d := o
  obtain ⟨dg0, t0, _, f1, _⟩ := a.p
  have g := DGet.k (k := Sum.inr "digits") f1
  rw [get_seD] at g
  refine ⟨_, e, A.d, .ref A.l, rfl, g, hi ms B σ H a _ fun w H1 h1 x1 o1 => ?_⟩
  cases o1
  obtain ⟨dg, t, e0, e1, e2⟩ := h1.p
  have en : dg[m]? = some dg[m] := List.getElem?_eq_getElem (by omega)
  refine ⟨A.l, _, m, .int dg[m], rfl, rfl, SqL.of e2, ?_, q (.dat (.int dg[m])) _ H1 ⟨_, rfl, trivial⟩ h1 x1 (.int _)⟩
  unfold atI
  rw [ix_nat (by rw [List.length_map]; omega), Option.bind_some, List.getElem?_map, en]
  rfl
theorem q_seN (a : At K (SW K A) ms B ρ σ H) (h : ρ[i]? = some (.raw (.ref A.d))) (e : En K (SW K A) tv ρ (IsI fun _ => True)) (k : ∀ H', At K (SW K A) ms B ρ σ H' → tz D σ H') : tSeq (sDPut (tVar i) (tC (.str "count")) tv) tz D σ H := e ms B σ H a _ fun s v H1 φ h1 x1 o1 => by
  obtain ⟨n, rfl, _⟩ := φ
  cases o1
  obtain ⟨v, ev, o⟩ := h1.env.get h (by intro q; cases q)
  obtain rfl : v = .ref A.d := o
  obtain ⟨dg, t, e0, e1, e2⟩ := h1.p
  have g := DPut.k (k := Sum.inr "count") (v := .int n) e1 (by show 3 < sizeLine; decide)
  rw [put_seN] at g
  exact ⟨_, ev, A.d, _, rfl, g, k _ (h1.se (by simp) ⟨dg, n, e0, upd_same, by rw [upd_ne (Ne.symm A.ne)]; exact e2⟩)⟩
theorem q_seD {m : Nat} (a : At K (SW K A) ms B ρ σ H) (h : ρ[i]? = some (.raw (.ref A.d))) (hi : Evd K (SW K A) ti ρ (.int (m : Int))) (hm : m < A.cells.length) (e : En K (SW K A) tv ρ (IsI fun _ => True)) (k : ∀ H', At K (SW K A) ms B ρ σ H' → tz D σ H') : tSeq (tAsg tv (gSub (tDGet (tVar i) (tC (.str "digits"))) ti rSetL)) tz D σ H := e ms B σ H a _ fun s v H1 φ h1 x1 o1 => by
  obtain ⟨n, rfl, _⟩ := φ
  cases o1
  obtain ⟨v, ev, o⟩ := h1.env.get h (by intro q; cases q)
  obtain rfl : v = .ref A.d := o
  obtain ⟨dg0, t0, _, f1, _⟩ := h1.p
  have g := DGet.k (k := Sum.inr "digits") f1
  rw [get_seD] at g
  refine ⟨_, ev, A.d, .ref A.l, rfl, g, hi ms B σ H1 h1 _ fun w H2 h2 x2 o2 => ?_⟩
  cases o2
  obtain ⟨dg, t, e0, e1, e2⟩ := h2.p
  refine ⟨A.l, _, m, m, rfl, rfl, e2, ix_nat (by rw [List.length_map]; omega), k _ (h2.se (by simp) ⟨dg.set m n, t, by rw [List.length_set]; exact e0, by rw [upd_ne A.ne]; exact e1, ?_⟩)⟩
  rw [upd_same, List.map_set]
/-- the truth of a list's being there: xs or ys -/
theorem ev_orL {xs ys : List PyData} (ha : Evd K W0 ta ρ (.list xs)) (hb : Evd K W0 tb ρ (.list ys)) : Evd K W0 (tOrT K ta tb) ρ (.list (if xs.isEmpty then ys else xs)) := fun ms B σ H a Q q => ha ms B σ H a _ fun v H1 h1 x1 o1 => by
  cases xs with
  | nil =>
    cases o1 with
    | lst hs hd =>
      cases hd
      exact ⟨false, .inl ⟨_, sql_mono cut_le hs, rfl⟩, iteF (hb ms B σ H1 h1 Q fun v H2 h2 x2 o2 => q v H2 h2 (x1.trans x2) o2)⟩
  | cons x xs =>
    cases o1 with
    | @lst p vs _ hs hd =>
      have e : vs.isEmpty = false := by cases hd; rfl
      exact ⟨true, .inl ⟨_, sql_mono cut_le hs, by rw [e]; rfl⟩, iteT (q _ H1 h1 x1 (.lst hs hd))⟩
end
end Fw

/-! Defs that raise an own exception. -/
namespace Sc
open PySem L2 Fw
open PyProof.Rows (envOfC)
inductive Out where
  | ok (d : PyData) | no (c : Addr) | fd (c : Addr) (f : Str) (d : PyData)
def spX (K : PySem.W.Frag) (O : List PyData → Out → Prop) : Sp := fun vs H Q E => ∃ (ms : List Addr) (ds : List PyData) (o : Out), Live ms H ∧ DpAll K (cut ms H) vs ds ∧ O ds o ∧
  (∀ d, o = .ok d → ∀ v H', Same H H' → Dp K (cut ms H') v d → Q v H') ∧ (∀ c, o = .no c → ∀ H', Same H H' → E (.ref c) none H') ∧
  ∀ c f d, o = .fd c f d → ∀ dx v H', Same H H' → H dx = none → H' dx = some (.xd [(f, v)]) → Dp K (cut ms H') v d → E (.ref c) (some dx) H'
section
variable {K : PySem.W.Frag} {W : Wd} {ms : List Addr} {B : Bs} {H H' : Hp} {ρ : List Sl} {σ : L2.St} {ta : TA} {D : Ends} {tz : TS} {ds : List PyData} {O : List PyData → Out → Prop} {o : Out} {d : PyData} {E : XK} {WX' : WX}
theorem ev_callX (h : EvD K W ta ρ ds) (ho : O ds (.ok d)) : Evd K W (tCall (spX K O) [] E ta) ρ d := fun ms B σ H a Q q => h ms B σ H a _ fun vs H1 h1 x1 o1 => by
  show spX K O (vs ++ []) H1 Q E
  rw [List.append_nil]
  exact ⟨ms, ds, .ok d, h1.live, o1, ho, fun d' e v H2 s2 o2 => by cases e; exact q v H2 (h1.same s2) (x1.trans (.of_same s2)) o2, fun c e => (nomatch e), fun c f d e => (nomatch e)⟩
theorem s_callX (h : At K W ms B ρ σ H) (ha : EvD K W ta ρ ds) (ho : O ds o) (k1 : ∀ d, o = .ok d → ∀ H', At K W ms B ρ σ H' → D.nx σ H') (k2 : ∀ c, o = .no c → ∀ H', At K W ms B ρ σ H' → WX' (.ref c) none σ H') (kf : ∀ c f d, o ≠ .fd c f d := by intro _ _ _ z; cases z) : tDrop (tCallS (spX K O) (WE WX') ta) D σ H :=
  ha ms B σ H h _ fun vs H1 h1 x1 o1 => ⟨ms, ds, o, h1.live, o1, ho, fun d e v H2 s2 o2 => k1 d e H2 (h1.same s2), fun c e H2 s2 => k2 c e H2 (h1.same s2), fun c f d e => absurd e (kf c f d)⟩
theorem q_callX (h : At K W ms B ρ σ H) (ha : EvD K W ta ρ ds) (ho : O ds o) (k1 : ∀ d, o = .ok d → ∀ H', At K W ms B ρ σ H' → tz D σ H') (k2 : ∀ c, o = .no c → ∀ H', At K W ms B ρ σ H' → WX' (.ref c) none σ H') (kf : ∀ c f d, o ≠ .fd c f d := by intro _ _ _ z; cases z) : tSeq (tDrop (tCallS (spX K O) (WE WX') ta)) tz D σ H :=
  s_callX (D := { D with nx := tz D }) h ha ho k1 k2 kf
section
variable {P : Program} {w : World} {mg : Str → Option Value} {base : Heap}
theorem raiseOk {x qual : Str} {st : Stmt} {f : Addr} {fd : FuncData} {N ps : List Str} {k : Nat} {O : List PyData → Out → Prop} (F : Fun K x qual st f fd) (S : FnScope N ps (defScope st)) (hG : ∀ ds o, O ds o → ds.length = ps.length)
    (hb : ∀ (cdv : Value) (A : Around) (outer : List Env) (s : Shared) (H : Hp) (E : XK), Room k (A.deeper (envOfC qual (defScope st) s.heap.objs.size f cdv)) →
      ∃ t, PSs (cxOf (L2.CX P w) P w K mg base N qual (defScope st) f cdv A outer s H E) (defBody st) t ∧ ∀ ds o, O ds o → ∀ (ms : List Addr) (σ : L2.St) (H : Hp) (Q : VK), At K W0 ms ⟨H, H⟩ (slots N.length ds) σ H →
        (∀ d, o = .ok d → ∀ v H', At K W0 ms ⟨H, H⟩ [] [] H' → Dp K (cut ms H') v d → Q v H') → (∀ c, o = .no c → ∀ H', Same H H' → E (.ref c) none H') → (∀ c f d, o = .fd c f d → ∀ dx v H', Same H H' → H dx = none → H' dx = some (.xd [(f, v)]) → Dp K (cut ms H') v d → E (.ref c) (some dx) H') → t { nx := fun _ H' => Q .non H', rt := Q } σ H) : FnOk P w K mg base (L2.CX P w) (k + 1) f fd ps (spX K O) := by
  refine F.okX S (fun vs H Q E h => ?_) fun cdv A outer s H vs Q E hr h => ?_
  · obtain ⟨ms, ds, o, l, d, g, _⟩ := h
    rw [dpa_len d, hG ds o g]
  · obtain ⟨ms, ds, o, l, d, g, q1, q2, q3⟩ := h
    obtain ⟨t, ht, hr⟩ := hb cdv A outer s H E hr
    exact ⟨t, ht, hr ds o g ms _ H Q (at_start l d) (fun d e v H' a od => q1 d e v H' a.xw.same od) q2 q3⟩
end
end
end Sc

/-! What a call ends in, as a value: data, or the exception that was caught. -/
namespace Sc
open PySem L2 Fw
def ArgO (K : PySem.W.Frag) (H : Hp) : Out → V → Prop
  | .ok d, v => Dp K H v d
  | .no c, v => ∃ a, v = .ref a ∧ H a = some (ExD (.ref c) none a)
  | .fd c f d, v => ∃ a dx w, v = .ref a ∧ H a = some (ExD (.ref c) (some dx) a) ∧ H dx = some (.xd [(f, w)]) ∧ Dp K H w d
theorem ArgO.mono {K : PySem.W.Frag} {H H' : Hp} (s : Same H H') : ∀ {o : Out} {v : V}, ArgO K H o v → ArgO K H' o v
  | .ok d, v, h => dp_mono s _ _ h
  | .no c, v, ⟨a, e, h⟩ => ⟨a, e, s _ _ h⟩
  | .fd c f d, v, ⟨a, dx, w, e, h, hx, hd⟩ => ⟨a, dx, w, e, s _ _ h, s _ _ hx, dp_mono s _ _ hd⟩
end Sc

/-! tuple * int, any number. -/
namespace Fw
open PySem PySem.Spec L2
open PyProof.Rows
theorem tuple_mul1 (l : Addr) (items : Array Value) (n : Nat) (dd : Option Addr) (sl : Array (Option Value)) (u : Tok) :
    Meets (Builtin.«tuple.__mul__» ⟨[.ref l, .int 1 u], []⟩) (fun _ R s => s.heap.get? l = some { cls := .type "tuple", dict := dd, data := .seq items n, slots := sl } ∧ R (.ok (.ret (Value.ref l))) s) :=
  .of_wp fun prog w A R s h => by
    obtain ⟨hp, g, d, tk, os⟩ := s
    obtain ⟨hl, h⟩ := h
    have f1 := AutoSeq1.idx_int
    wp_walk using wpAny_loadPart' hl
    repeat (first
      | (refine wpAny_ite_false (decide_eq_false (by decide)) ?_; wp_walk using wpAny_loadPart' hl)
      | (refine wpAny_ite_true (decide_eq_true (by simp)) ?_; wp_walk using wpAny_loadPart' hl))
    exact ⟨_, rfl, h⟩
theorem tuple_mul0 (l : Addr) (items : Array Value) (n : Nat) (dd : Option Addr) (sl : Array (Option Value)) (u : Tok) (hi : items.isEmpty = false) :
    Meets (Builtin.«tuple.__mul__» ⟨[.ref l, .int 0 u], []⟩) (fun _ R s => s.heap.get? l = some { cls := .type "tuple", dict := dd, data := .seq items n, slots := sl } ∧
      R (.ok (.ret (Value.ref s.heap.objs.size))) { s with heap := s.heap.push { cls := Value.type "tuple", data := Data.seq #[] }, toks := s.toks }) :=
  .of_wp fun prog w A R s h => by
    obtain ⟨hp, g, d, tk, os⟩ := s
    obtain ⟨hl, h⟩ := h
    have f1 := AutoSeq1.idx_int
    wp_walk using wpAny_loadPart' hl
    repeat (first
      | (refine wpAny_ite_false (decide_eq_false (by decide)) ?_; wp_walk using wpAny_loadPart' hl)
      | (refine wpAny_ite_false (decide_eq_false (by rw [hi]; decide)) ?_; wp_walk using wpAny_loadPart' hl)
      | (refine wpAny_ite_true (decide_eq_true (by simp)) ?_; wp_walk using wpAny_loadPart' hl))
    exact ⟨_, rfl, h⟩
/-- t * k -/
def rRepA (K : PySem.W.Frag) : R2 := fun x y H Q => ∃ l k xs, x = .ref l ∧ y = .int k ∧ SqT K H l xs ∧ xs ≠ [] ∧ 0 ≤ k ∧ k ≤ 1000 ∧ xs.length ≤ 1000 ∧ (k = 1 → Q (.ref l) H) ∧ (k ≠ 1 → ∀ p, H p = none → Q (.ref p) (upd H p (.tup (List.replicate k.toNat xs).flatten)))
theorem op_repA {X : Cx} : OpR X (binaryOp .Mult) (rRepA X.K) := by
  intro pins s σ H x y v u Q I rx ry h
  obtain ⟨l, k, xs, rfl, rfl, hT, hne, h1, h2, hz, q1, q⟩ := h
  by_cases hk : 2 ≤ k
  · exact op_repT pins s σ H _ _ v u Q I rx ry ⟨l, k, xs, rfl, rfl, hT, hne, hk, h2, hz, q (by omega)⟩
  cases rx
  obtain ⟨t, rfl⟩ := ry
  obtain ⟨its, r, ⟨⟨cls, dd, data, sl⟩, ho, hc, n, hd⟩, hs⟩ := I.tuple hT
  simp only at hc hd
  subst hc hd
  have hi : its.toArray.isEmpty = false := by
    cases r with
    | nil => exact absurd rfl hne
    | cons _ _ => rfl
  have hk : k = 0 ∨ k = 1 := by omega
  rcases hk with rfl | rfl
  · refine wpAny_binaryOp_repeat_ref (T := "tuple") (U := "int") (by decide) ⟨_, ho, rfl⟩ (fun s' => typeIs_int s' 0 t) noFill_tuple_mul F.fills_int_mul F.slot_int_rmul repeat_tuple F.slot_int_index.lookup
      (call_meets F.slot_int_rmul (typeIs_int s 0 t) F.entry_int_rmul (F.args_int_rmul_2 _ _) (int_rmul_tuple 0 t l its.toArray n dd sl)
        ⟨ho, rfl, ⟨_, ho, rfl⟩, call_meets F.slot_tuple_mul ⟨_, ho, rfl⟩ F.entry_tuple_mul (F.args_tuple_mul_2 _ _) (tuple_mul0 l its.toArray n dd sl t hi) ⟨ho, ?_⟩⟩)
    refine ⟨.ref s.heap.objs.size, _, I.laid (t' := s.toks) (o := .tup (List.replicate (0 : Int).toNat xs).flatten) (fun b ob q => Heap.get?_push_of_some _ q) (Nat.le_refl _) ?_, rfl, q (by decide) _ (I.hok.fresh (Nat.le_refl _))⟩
    exact ⟨Nat.zero_le _, [], .nil, IsTup.new _ _⟩
  · refine wpAny_binaryOp_repeat_ref (T := "tuple") (U := "int") (by decide) ⟨_, ho, rfl⟩ (fun s' => typeIs_int s' 1 t) noFill_tuple_mul F.fills_int_mul F.slot_int_rmul repeat_tuple F.slot_int_index.lookup
      (call_meets F.slot_int_rmul (typeIs_int s 1 t) F.entry_int_rmul (F.args_int_rmul_2 _ _) (int_rmul_tuple 1 t l its.toArray n dd sl)
        ⟨ho, rfl, ⟨_, ho, rfl⟩, call_meets F.slot_tuple_mul ⟨_, ho, rfl⟩ F.entry_tuple_mul (F.args_tuple_mul_2 _ _) (tuple_mul1 l its.toArray n dd sl t) ⟨ho, ?_⟩⟩)
    exact ⟨.ref l, H, I, rfl, q1 rfl⟩
section
variable {K : PySem.W.Frag} {W : Wd} {ρ : List Sl} {d : PyData} {ta tb : TE}
/-- (x,) * n -/
theorem ev_repT {n : Nat} (ha : Evd K W ta ρ (.tuple [d])) (hb : Evd K W tb ρ (.int (n : Int))) (hn : n ≤ 1000) : Evd K W (tOp (rRepA K) ta tb) ρ (.tuple (List.replicate n d)) := ev_op ha hb fun ms H x y lv hx hy Q q => by
  cases hy
  have hx' := hx
  cases hx with
  | @tup l vs _ hs hd =>
    cases hd with
    | @cons v _ _ _ h1 h2 =>
      cases h2
      refine ⟨l, n, [v], rfl, rfl, sqt_mono cut_le hs, by simp, by omega, by omega, by show 1 ≤ 1000; omega, fun e => q _ H (Same.refl H) ?_, fun e p hp => ?_⟩
      · obtain rfl : n = 1 := by omega
        exact hx'
      · refine q _ _ (same_put hp) ?_
        rw [Int.toNat_natCast, flat_rep]
        exact Sl.new_tup lv hp (dpa_rep h1)
end
end Fw

/-! zip of three lists. -/
namespace Fw
open PySem PySem.Spec L2
open PyProof.Rows
def Itz3 (K : PySem.W.Frag) (a b c : Addr) : It :=
  ⟨fun i H => ∃ (xs ys zs : List V), SqL K H a xs ∧ SqL K H b ys ∧ SqL K H c zs ∧ i < xs.length ∧ i < ys.length ∧ i < zs.length,
    fun i H v H' => ∃ T x y z, v = .ref T ∧ H T = none ∧ H' = upd H T (.tup [x, y, z]) ∧ (∀ xs, SqL K H a xs → xs[i]? = some x) ∧ (∀ ys, SqL K H b ys → ys[i]? = some y) ∧ ∀ zs, SqL K H c zs → zs[i]? = some z,
    fun i H => ∃ xs ys zs : List V, SqL K H a xs ∧ SqL K H b ys ∧ SqL K H c zs ∧ i = min (min xs.length ys.length) zs.length⟩
theorem turn_zip3 {P : Program} {w : World} {K : PySem.W.Frag} {elts : List Expr} {kk : Nat} {tpos : Pos} {a b c N : Addr} (ha : a < N) (hb : b < N) (hcN : c < N) :
    Turn P w K (.Tuple elts kk tpos) (Itz3 K a b c) [N + 5, N + 3, N + 4, N, N + 1, N + 2] (N + 5) (fun i h => IsZip h (N + 5) (N + 3) (N + 4) .none ∧ IsTupOf3 h (N + 3) (.ref N) (.ref (N + 1)) (.ref (N + 2)) ∧ (∃ x y z, IsTupOf3 h (N + 4) x y z) ∧ h.IsListIter N a i ∧ h.IsListIter (N + 1) b i ∧ h.IsListIter (N + 2) c i) := by
  have S : ZipSep3 (N + 5) (N + 3) (N + 4) N (N + 1) (N + 2) (N :: [a]) ((N + 1) :: [b]) ((N + 2) :: [c]) := zip_sep3 (fun x q => by rw [List.mem_singleton.mp q]; exact ha) (fun x q => by rw [List.mem_singleton.mp q]; exact hb) (fun x q => by rw [List.mem_singleton.mp q]; exact hcN)
  have na : a ≠ N := Nat.ne_of_lt ha
  have nb : b ≠ N + 1 := Nat.ne_of_lt (Nat.lt_succ_of_lt hb)
  have nc : c ≠ N + 2 := Nat.ne_of_lt (Nat.lt_succ_of_lt (Nat.lt_succ_of_lt hcN))
  have mem6 : ∀ {x : Addr}, x ∈ [N + 5, N + 3, N + 4, N, N + 1, N + 2] → x = N + 5 ∨ x = N + 3 ∨ x = N + 4 ∨ x = N ∨ x = N + 1 ∨ x = N + 2 := fun {x} h => by simpa using h
  refine ⟨by simp, fun i h st x hx => ?_, fun i h h' st k => ?_, ?_, ?_, fun A i s Q E st h => wpAny_pyIter_zip st.1 h⟩
  · obtain ⟨hz, hTI, ⟨_, _, _, hTO⟩, ⟨o1, e1, _, d1⟩, ⟨o2, e2, _, d2⟩, ⟨o3, e3, _, d3⟩⟩ := st
    rcases mem6 hx with q | q | q | q | q | q
    · rw [q]; exact ⟨_, hz, fun v q => nomatch q⟩
    · rw [q]; exact ⟨_, hTI, fun v q => nomatch q⟩
    · rw [q]; exact ⟨_, hTO, fun v q => nomatch q⟩
    · rw [q]; exact ⟨o1, e1, fun v q => by rw [d1] at q; cases q⟩
    · rw [q]; exact ⟨o2, e2, fun v q => by rw [d2] at q; cases q⟩
    · rw [q]; exact ⟨o3, e3, fun v q => by rw [d3] at q; cases q⟩
  · obtain ⟨hz, hTI, ⟨x, y, z, hTO⟩, h1, h2, h3⟩ := st
    exact ⟨k _ (by simp) _ hz, k _ (by simp) _ hTI, ⟨x, y, z, k _ (by simp) _ hTO⟩, h1.at fun o q => k N (by simp) o q, h2.at fun o q => k (N + 1) (by simp) o q, h3.at fun o q => k (N + 2) (by simp) o q⟩
  · intro X hP hw hK hc i pins s σ H E I hf st hg
    subst hP hw hK
    obtain ⟨hz, hTI, hTO, h1, h2, h3⟩ := st
    obtain ⟨xs, ys, zs, hqx, hqy, hqz, lx, ly, lz⟩ := hg
    obtain ⟨its, rv, p, _⟩ := I.list hqx
    obtain ⟨its2, rv2, p2, _⟩ := I.list hqy
    obtain ⟨its3, rv3, p3, _⟩ := I.list hqz
    have hh := I.ok.hd hc
    have W := GoesN.zip3 (prog := X.prog) (w := X.w) (A := X.A) (elts := elts) (x1 := kk) (pos := tpos) S (Draws.list (A := X.A.in1) hh N a na its.toArray) (Draws.list (A := X.A.in1) hh (N + 1) b nb its2.toArray) (Draws.list (A := X.A.in1) hh (N + 2) c nc its3.toArray)
    have e1 := rv.length
    have e2 := rv2.length
    have e3 := rv3.length
    refine W.goes i s (fun v s₂ => ∃ x H', Inv X pins σ H' s₂ ∧ RelV x v ∧ (Itz3 X.K a b c).yld i H x H' ∧ (IsZip s₂.heap (N + 5) (N + 3) (N + 4) .none ∧ IsTupOf3 s₂.heap (N + 3) (.ref N) (.ref (N + 1)) (.ref (N + 2)) ∧ (∃ x y z, IsTupOf3 s₂.heap (N + 4) x y z) ∧ s₂.heap.IsListIter N a (i + 1) ∧ s₂.heap.IsListIter (N + 1) b (i + 1) ∧ s₂.heap.IsListIter (N + 2) c (i + 1)) ∧ ∀ b ∈ [N + 5, N + 3, N + 4, N, N + 1, N + 2], H' b = none) E
      (by simp only [List.size_toArray]; omega) ⟨hz, hTI, hTO, ⟨h1, p.isList⟩, ⟨h2, p2.isList⟩, ⟨h3, p3.isList⟩⟩ fun v h' tk Y st' hk htk => ?_
    obtain ⟨T, x, y, u, rfl, hnew, hx, hy, hu, ⟨oT, eT, cT, nT, dT⟩⟩ := Y
    obtain ⟨z1, z2, z3, ⟨z4, _⟩, ⟨z5, _⟩, ⟨z6, _⟩⟩ := st'
    have gx : xs[i]? = some xs[i] := List.getElem?_eq_getElem lx
    have gy : ys[i]? = some ys[i] := List.getElem?_eq_getElem ly
    have gz : zs[i]? = some zs[i] := List.getElem?_eq_getElem lz
    obtain ⟨v1, q1, r1⟩ := rv.get gx
    obtain ⟨v2, q2, r2⟩ := rv2.get gy
    obtain ⟨v3, q3, r3⟩ := rv3.get gz
    have ex : v1 = x := Option.some.inj (q1.symm.trans (by simpa using hx))
    have ey : v2 = y := Option.some.inj (q2.symm.trans (by simpa using hy))
    have eu : v3 = u := Option.some.inj (q3.symm.trans (by simpa using hu))
    rw [ex] at r1; rw [ey] at r2; rw [eu] at r3
    have new : ObjOk X.prog X.w (upd H T (.tup [xs[i], ys[i], zs[i]])) h' T (.tup [xs[i], ys[i], zs[i]]) :=
      ⟨by show 3 ≤ sizeLine; decide, [x, y, u], .cons r1 (.cons r2 (.cons r3 .nil)), ⟨oT, eT, cT, nT, dT⟩⟩
    have sub : ∀ q ∈ [N + 5, N + 4, N, N + 1, N + 2], q ∈ [N + 5, N + 3, N + 4, N, N + 1, N + 2] := fun q hq => by
      simp only [List.mem_cons, List.not_mem_nil, or_false] at hq ⊢
      rcases hq with h | h | h | h | h <;> simp [h]
    have I1 : Inv X pins σ (upd H T (.tup [xs[i], ys[i], zs[i]])) { s with heap := h', toks := tk } := I.turnedNew (t' := tk) (ch := [N + 5, N + 4, N, N + 1, N + 2]) hk (fun q hq => hf q (sub q hq)) hnew new
    refine ⟨.ref T, _, I1, rfl, ⟨T, _, _, _, rfl, I.hok.fresh hnew, rfl, fun l hl => by rw [I.list_inj hl hqx]; exact gx, fun l hl => by rw [I.list_inj hl hqy]; exact gy, fun l hl => by rw [I.list_inj hl hqz]; exact gz⟩, ⟨z1, z2, z3, z4, z5, z6⟩, fun q hq => ?_⟩
    have hlt : q < s.heap.objs.size := by
      obtain ⟨_, _, _, hTO⟩ := hTO
      obtain ⟨_, g1, _⟩ := h1
      obtain ⟨_, g2, _⟩ := h2
      obtain ⟨_, g3, _⟩ := h3
      rcases mem6 hq with z | z | z | z | z | z
      · rw [z]; exact Heap.lt_size hz
      · rw [z]; exact Heap.lt_size hTI
      · rw [z]; exact Heap.lt_size hTO
      · rw [z]; exact Heap.lt_size g1
      · rw [z]; exact Heap.lt_size g2
      · rw [z]; exact Heap.lt_size g3
    rw [upd_ne (Nat.ne_of_lt (Nat.lt_of_lt_of_le hlt hnew))]
    exact (hf q hq).1
  · intro X hP hw hK hc i pins s σ H E I hf st hg
    subst hP hw hK
    obtain ⟨hz, hTI, hTO, h1, h2, h3⟩ := st
    obtain ⟨xs, ys, zs, hqx, hqy, hqz, hi⟩ := hg
    obtain ⟨its, rv, p, _⟩ := I.list hqx
    obtain ⟨its2, rv2, p2, _⟩ := I.list hqy
    obtain ⟨its3, rv3, p3, _⟩ := I.list hqz
    have hh := I.ok.hd hc
    have W := GoesN.zip3 (prog := X.prog) (w := X.w) (A := X.A) (elts := elts) (x1 := kk) (pos := tpos) S (Draws.list (A := X.A.in1) hh N a na its.toArray) (Draws.list (A := X.A.in1) hh (N + 1) b nb its2.toArray) (Draws.list (A := X.A.in1) hh (N + 2) c nc its3.toArray)
    have e : i = min (min its.toArray.size its2.toArray.size) its3.toArray.size := by
      rw [hi, List.size_toArray, List.size_toArray, List.size_toArray, rv.length, rv2.length, rv3.length]
    subst e
    have sub : ∀ q ∈ [N + 5, N + 4, N, N + 1, N + 2], q ∈ [N + 5, N + 3, N + 4, N, N + 1, N + 2] := fun q hq => by
      simp only [List.mem_cons, List.not_mem_nil, or_false] at hq ⊢
      rcases hq with h | h | h | h | h <;> simp [h]
    exact W.stops s (fun s1 => Inv X pins σ H s1) E ⟨hz, hTI, hTO, ⟨h1, p.isList⟩, ⟨h2, p2.isList⟩, ⟨h3, p3.isList⟩⟩ fun h' tk hk _ => I.turnedL (t' := tk) (ch := [N + 5, N + 4, N, N + 1, N + 2]) hk fun q hq => hf q (sub q hq)
def iZip3 (K : PySem.W.Frag) (ta : TA) : TI := fun σ H R => ta σ H fun vs H1 => ∃ a b c xs ys zs, vs = [.ref a, .ref b, .ref c] ∧ SqL K H1 a xs ∧ SqL K H1 b ys ∧ SqL K H1 c zs ∧ R (Itz3 K a b c) H1
theorem pi_zip3 {X : Cx} {e e2 e3 : Expr} {ta : TA} {p pos tpos : Pos} {elts : List Expr} {kk : Nat} (hm : X.mg "zip" = none) (ha : PA X [e, e2, e3] ta) (hg : X.env.kindOf "zip" = some .globalImplicit := by kernel_rfl)
    (hs : starEach [e, e2, e3] X.env = (false, eval e X.env) :: starEach [e2, e3] X.env := by kernel_rfl) (hpl : (backTo pos (starEach [e2, e3] X.env)).any (·.1) = false := by kernel_rfl) :
    PI X (.Tuple elts kk tpos) (.Call (.Name "zip" p) [e, e2, e3] [] pos) (iZip3 X.K ta) := by
  refine ⟨fun pins s σ H R I h => ?_⟩
  refine Call_ (ld_blt I hg hm PyProof.Rows.boot_zip (PyProof.Rows.callWith_type1 (thn (ha.run pos pins s σ H _ I h) fun us s1 ⟨vs, H1, I1, r1, q1⟩ => ?_) hs hpl))
  obtain ⟨a, b, c, xs, ys, zs, ex, hqx, hqy, hqz, q⟩ := q1
  subst ex
  cases r1 with
  | cons r rr =>
    cases rr with
    | cons r' rr =>
      cases rr with
      | cons r'' rr =>
        cases rr
        cases r
        cases r'
        cases r''
        obtain ⟨its, rv, p1, _⟩ := I1.list hqx
        obtain ⟨its2, rv2, p2, _⟩ := I1.list hqy
        obtain ⟨its3, rv3, p3, _⟩ := I1.list hqz
        refine zip_begins3 (begins_list a its.toArray) (begins_list b its2.toArray) (begins_list c its3.toArray) p1.isList p2.isList p3.isList fun h' hz hTI hTO h1 h2 h3 hsz hk => wpAny_pyIter_zip hz ?_
        have I2 : Inv X pins σ H1 { s1 with heap := h' } := I1.kept (t' := s1.toks) hk
        refine ⟨s1.heap.objs.size + 5, _, _, _, H1, rfl, I2, turn_zip3 (N := s1.heap.objs.size) p1.lt p2.lt p3.lt, ⟨hz, hTI, ⟨_, _, _, hTO⟩, ⟨_, h1, rfl, rfl⟩, ⟨_, h2, rfl, rfl⟩, ⟨_, h3, rfl, rfl⟩⟩, fun q hq => ?_, q⟩
        have hle : s1.heap.objs.size ≤ q := by
          have e' : q = s1.heap.objs.size + 5 ∨ q = s1.heap.objs.size + 3 ∨ q = s1.heap.objs.size + 4 ∨ q = s1.heap.objs.size ∨ q = s1.heap.objs.size + 1 ∨ q = s1.heap.objs.size + 2 := by simpa using hq
          rcases e' with z | z | z | z | z | z <;> rw [z]
          · exact Nat.le_add_right _ _
          · exact Nat.le_add_right _ _
          · exact Nat.le_add_right _ _
          · exact Nat.le_refl _
          · exact Nat.le_add_right _ _
          · exact Nat.le_add_right _ _
        exact I1.fpOk hle (I1.hok.fresh hle)
end Fw

/-! enumerate of a tuple. -/
namespace Fw
open PySem PySem.Spec L2
open PyProof.Rows
theorem meets_enum1 {v : Value} {o : Obj} {H : Heap → Prop} (B : Begins v o H) :
    Meets (Builtin.«enumerate.__new__» ⟨[.type "enumerate", v], []⟩) (fun _ R s => H s.heap ∧
      R (.ok (.ret (.ref (s.heap.push o).objs.size))) { s with heap := (s.heap.push o).push { cls := .type "enumerate", data := .fields #[.none, .bool false, .ref s.heap.objs.size, rawInt 0, .none, .none] } }) :=
  .of_wp fun prog w A R s h => by
    obtain ⟨hp, g, d, tk, os⟩ := s; obtain ⟨h1, h⟩ := h
    have hsub := sub_enumerate
    have q1 : ∀ {A' : Around} {E : Value → Shared → Prop} {Q : Value → Shared → Prop}, Q (.ref hp.objs.size) ⟨hp.push o, g, d, tk, os⟩ → wpAny (model prog w) A' (pyIter v) Q E ⟨hp, g, d, tk, os⟩ :=
      fun q => B.iter prog w _ _ ⟨hp, g, d, tk, os⟩ _ h1 q
    wp_walk using q1
    refine wpAny_stack_any fun st => wpAny_pure ?_
    split
    · rename_i c _ _ _ _ _
      cases (c == Value.type "enumerate")
      · wp_walk using q1
        exact ⟨_, rfl, h⟩
      · wp_walk using q1
        exact ⟨_, rfl, h⟩
    · wp_walk using q1
      exact ⟨_, rfl, h⟩
theorem enum1_begins {prog : Program} {w : World} {A : Around} {E : Value → Shared → Prop} {s : Shared} {v : Value} {o : Obj} {H : Heap → Prop} {Q : Value → Shared → Prop} (B : Begins v o H) (h1 : H s.heap)
    (h : ∀ h', IsEnum h' (s.heap.objs.size + 1) s.heap.objs.size 0 .none → h'.get? s.heap.objs.size = some o → (∀ b o, s.heap.get? b = some o → h'.get? b = some o) → Q (.ref (s.heap.objs.size + 1)) { s with heap := h' }) :
    wpAny (model prog w) A (call (.type "enumerate") [v]) Q E s := by
  refine callType_new F.called_enumerate (by decide) (F.typeCall_enumerate_1 _) (F.newCall_enumerate_1 _) (fun obj => F.args_object_init_2 obj _) F.entry_enumerate_new (meets_enum1 B) ⟨h1, ?_⟩
  have hz : (s.heap.push o).objs.size = s.heap.objs.size + 1 := Heap.size_push ..
  show _ ∧ _
  rw [hz]
  have he : IsEnum ((s.heap.push o).push { cls := .type "enumerate", data := .fields #[.none, .bool false, .ref s.heap.objs.size, rawInt 0, .none, .none] }) (s.heap.objs.size + 1) s.heap.objs.size 0 .none := by
    have := Heap.get?_push_size (s.heap.push o) (o := { cls := .type "enumerate", data := .fields #[.none, .bool false, .ref s.heap.objs.size, rawInt 0, .none, .none] }) rfl
    rw [hz] at this; exact this
  refine ⟨⟨_, he, rfl⟩, h _ he (Heap.get?_push_of_some _ (Heap.get?_push_size _ B.free)) fun b o x => Heap.get?_push_of_some _ (Heap.get?_push_of_some _ x)⟩
def IteT (K : PySem.W.Frag) (a : Addr) : It :=
  ⟨fun i H => ∃ xs : List V, SqT K H a xs ∧ i < xs.length, fun i H v H' => ∃ T x, v = .ref T ∧ H T = none ∧ H' = upd H T (.tup [.int (i : Nat), x]) ∧ ∀ xs, SqT K H a xs → xs[i]? = some x, fun i H => ∃ xs : List V, SqT K H a xs ∧ i = xs.length⟩
theorem turn_enumT {P : Program} {w : World} {K : PySem.W.Frag} {elts : List Expr} {kk : Nat} {tpos : Pos} {a N : Addr} (ha : a < N) :
    Turn P w K (.Tuple elts kk tpos) (IteT K a) [N + 1, N] (N + 1) (fun i h => (∃ old, IsEnum h (N + 1) N ((0 : Int) + ((i : Nat) : Int)) old) ∧ h.IsTupleIter N a i) := by
  have na : a ≠ N := Nat.ne_of_lt ha
  have ne : N + 1 ≠ N := Nat.succ_ne_self N
  have nf : N + 1 ∉ N :: [a] := fun hm => by
    rcases List.mem_cons.mp hm with e | hm
    · exact ne e
    · exact Nat.ne_of_gt (Nat.lt_succ_of_lt ha) (List.mem_singleton.mp hm)
  have mem2 : ∀ {x : Addr}, x ∈ [N + 1, N] → x = N + 1 ∨ x = N := fun {x} h => by simpa using h
  refine ⟨by simp, fun i h st x hx => ?_, fun i h h' st k => ?_, ?_, ?_, fun A i s Q E st h => ?_⟩
  · obtain ⟨⟨old, he⟩, ⟨o1, e1, _, d1⟩⟩ := st
    rcases mem2 hx with q | q
    · rw [q]; exact ⟨_, he, fun v q => nomatch q⟩
    · rw [q]; exact ⟨o1, e1, fun v q => by rw [d1] at q; cases q⟩
  · obtain ⟨⟨old, he⟩, h1⟩ := st
    exact ⟨⟨old, k _ (by simp) _ he⟩, h1.at fun o q => k N (by simp) o q⟩
  · intro X hP hw hK hc i pins s σ H E I hf st hg
    subst hP hw hK
    obtain ⟨he, h1⟩ := st
    obtain ⟨xs, hqx, lx⟩ := hg
    obtain ⟨its, rv, p, _⟩ := I.tuple hqx
    have hh := I.ok.hd hc
    have W := GoesN.enumFrom (prog := X.prog) (w := X.w) (A := X.A) (elts := elts) (x1 := kk) (pos := tpos) 0 (Draws.tuple (A := X.A.in1) hh N a na its.toArray) (N + 1) ne nf (by simp)
    have e1 := rv.length
    refine W.goes i s (fun v s₂ => ∃ x H', Inv X pins σ H' s₂ ∧ RelV x v ∧ (IteT X.K a).yld i H x H' ∧ ((∃ old, IsEnum s₂.heap (N + 1) N ((0 : Int) + ((i + 1 : Nat) : Int)) old) ∧ s₂.heap.IsTupleIter N a (i + 1)) ∧ ∀ b ∈ [N + 1, N], H' b = none) E
      (by simp only [List.size_toArray]; omega) ⟨he, h1, p⟩ fun v h' tk Y st' hk htk => ?_
    obtain ⟨T, t, x, rfl, hnew, hx, ⟨oT, eT, cT, nT, dT⟩⟩ := Y
    obtain ⟨z1, z2, _⟩ := st'
    have gx : xs[i]? = some xs[i] := List.getElem?_eq_getElem lx
    obtain ⟨v1, q1, r1⟩ := rv.get gx
    have ex : v1 = x := Option.some.inj (q1.symm.trans (by simpa using hx))
    rw [ex] at r1
    have e0 : (0 : Int) + (i : Int) = (i : Int) := by omega
    rw [e0] at dT
    have new : ObjOk X.prog X.w (upd H T (.tup [.int (i : Nat), xs[i]])) h' T (.tup [.int (i : Nat), xs[i]]) :=
      ⟨by show 2 ≤ sizeLine; decide, [.int i t, x], .cons ⟨_, rfl⟩ (.cons r1 .nil), ⟨oT, eT, cT, nT, dT⟩⟩
    have I1 : Inv X pins σ (upd H T (.tup [.int (i : Nat), xs[i]])) { s with heap := h', toks := tk } := I.turnedNew (t' := tk) (ch := [N + 1, N]) hk hf hnew new
    refine ⟨.ref T, _, I1, rfl, ⟨T, _, rfl, I.hok.fresh hnew, rfl, fun l hl => by rw [I.tuple_inj hl hqx]; exact gx⟩, ⟨z1, z2⟩, fun q hq => ?_⟩
    have hlt : q < s.heap.objs.size := by
      obtain ⟨_, he⟩ := he
      obtain ⟨_, g1, _⟩ := h1
      rcases mem2 hq with z | z
      · rw [z]; exact Heap.lt_size he
      · rw [z]; exact Heap.lt_size g1
    rw [upd_ne (Nat.ne_of_lt (Nat.lt_of_lt_of_le hlt hnew))]
    exact (hf q hq).1
  · intro X hP hw hK hc i pins s σ H E I hf st hg
    subst hP hw hK
    obtain ⟨he, h1⟩ := st
    obtain ⟨xs, hqx, hi⟩ := hg
    obtain ⟨its, rv, p, _⟩ := I.tuple hqx
    have hh := I.ok.hd hc
    have W := GoesN.enumFrom (prog := X.prog) (w := X.w) (A := X.A) (elts := elts) (x1 := kk) (pos := tpos) 0 (Draws.tuple (A := X.A.in1) hh N a na its.toArray) (N + 1) ne nf (by simp)
    have e : i = its.toArray.size := by rw [hi, List.size_toArray, rv.length]
    subst e
    exact W.stops s (fun s1 => Inv X pins σ H s1) E ⟨he, h1, p⟩ fun h' tk hk _ => I.turnedL (t' := tk) (ch := [N + 1, N]) hk hf
  · obtain ⟨⟨_, he⟩, _⟩ := st
    exact wpAny_pyIter_enum he h
def iEnumT (K : PySem.W.Frag) (ta : TA) : TI := fun σ H R => ta σ H fun vs H1 => ∃ a xs, vs = [.ref a] ∧ SqT K H1 a xs ∧ R (IteT K a) H1
theorem pi_enumT {X : Cx} {e : Expr} {ta : TA} {p pos tpos : Pos} {elts : List Expr} {kk : Nat} (hm : X.mg "enumerate" = none) (ha : PA X [e] ta) (hg : X.env.kindOf "enumerate" = some .globalImplicit := by kernel_rfl) (hs : starEach [e] X.env = [(false, eval e X.env)] := by kernel_rfl) :
    PI X (.Tuple elts kk tpos) (.Call (.Name "enumerate" p) [e] [] pos) (iEnumT X.K ta) := by
  refine ⟨fun pins s σ H R I h => ?_⟩
  refine Call_ (ld_blt I hg hm boot_enumerate (PyProof.Rows.callWith_type1 (thn (ha.run pos pins s σ H _ I h) fun us s1 ⟨vs, H1, I1, r1, q1⟩ => ?_) hs rfl))
  obtain ⟨a, xs, ex, hq, q⟩ := q1
  subst ex
  cases r1 with
  | cons r rr =>
    cases rr
    cases r
    obtain ⟨its, rv, p', hz⟩ := I1.tuple hq
    have la : a < s1.heap.objs.size := by
      obtain ⟨_, e, _⟩ := p'
      exact Heap.lt_size e
    refine enum1_begins (begins_tuple a its.toArray) p' fun h' he h1 hk => wpAny_pyIter_enum he ?_
    have I2 : Inv X pins σ H1 { s1 with heap := h' } := I1.kept (t' := s1.toks) hk
    refine ⟨s1.heap.objs.size + 1, _, _, _, H1, rfl, I2, turn_enumT (N := s1.heap.objs.size) la, ⟨⟨.none, he⟩, ⟨_, h1, rfl, rfl⟩⟩, fun b hb => ?_, q⟩
    have e' : b = s1.heap.objs.size + 1 ∨ b = s1.heap.objs.size := by simpa using hb
    have hle : s1.heap.objs.size ≤ b := by
      rcases e' with z | z
      · rw [z]; exact Nat.le_add_right _ _
      · rw [z]; exact Nat.le_refl _
    exact I1.fpOk hle (I1.hok.fresh hle)
end Fw

/-! The frame: worlds that change; walks that look at what may be written. -/
namespace Fw
open PySem L2
open PyProof.Rows (envOfC)
section
variable {K : PySem.W.Frag} {W W' : Wd} {ms : List Addr} {B : Bs} {H H' : Hp} {ρ ρ' : List Sl} {σ σ' : L2.St} {d : PyData} {ds es fs : List PyData} {s : Sl} {v : V} {l : Addr} {i : Nat}
  {ta tb tc te tl : TE} {wi : TI} {g : TG} {D : Ends} {ts tz : TS}
/-- the same place, another world over the same places -/
theorem At.world (h : At K W ms B ρ σ H) (e : W'.ws = W.ws) (p : W'.P H) (c : W'.C (cut ms H)) : At K W' ms B ρ σ H := ⟨by rw [e]; exact h.sub, h.live, h.env, p, by rw [e]; exact h.xw, h.st, c⟩
/-- what the world lets be written is written -/
theorem At.putW (h : At K W ms B ρ σ H) {o : HO} (hl : l ∈ W.ws) (e : W'.ws = W.ws) (p : W'.P (upd H l o)) (c : W'.C (cut ms (upd H l o))) : At K W' ms B ρ σ (upd H l o) := by
  have hm : l ∈ ms := h.sub l hl
  refine ⟨by rw [e]; exact h.sub, h.live.upd, h.env.mono (cut_put (.inl hm)), p, ?_, h.st.trans (cut_put (.inl hm)), c⟩
  rw [e]
  intro b u n q
  rw [upd_ne (fun z => by subst z; exact n hl)]
  exact h.xw b u n q
def StreamP (K : PySem.W.Frag) (W : Wd) (J : It) (ms : List Addr) (H' : Hp) (ds : List PyData) : Prop :=
  ∃ (G : Hp → Prop) (Y : Nat → Hp → V → Hp → Prop), Walk J ds.length G Y ∧ ∀ H2 : Hp, Same (cut ms H') (cut ms H2) → W.P H2 → G H2 ∧
    ∀ (i : Nat) (x : V) (H3 : Hp), Live ms H2 → Y i H2 x H3 → Same H2 H3 ∧ ∀ d, ds[i]? = some d → Dp K (cut ms H3) x d
def SrcP (K : PySem.W.Frag) (W : Wd) (wi : TI) (ρ : List Sl) (ds : List PyData) : Prop :=
  ∀ (ms : List Addr) (B : Bs) (σ : L2.St) (H : Hp), At K W ms B ρ σ H → ∀ R : It → Hp → Prop, (∀ J H', At K W ms B ρ σ H' → XW W.ws H H' → StreamP K W J ms H' ds → R J H') → wi σ H R
theorem SrcP.of (h : Src K W wi ρ ds) : SrcP K W wi ρ ds := fun ms B σ H a R q => h ms B σ H a R fun J H' a' x' ⟨G, Y, wk, st⟩ => q J H' a' x' ⟨G, Y, wk, fun H2 s _ => st ms H2 s⟩
/-- the for; the source may look at what the world says -/
theorem s_forP {R S : Nat → List Sl} (h : At K W ms B ρ σ H) (sr : SrcP K W wi ρ ds) (l0 : Le (R 0) ρ)
    (tg : ∀ i d, ds[i]? = some d → ∃ js, Tg K W g js d (R i) (S i))
    (hs : ∀ Hb i d σ' H', ds[i]? = some d → At K W ms ⟨B.h0, Hb⟩ (S i) σ' H' → ts { D with nx := fun σ H => At K W ms ⟨B.h0, Hb⟩ (R (i + 1)) σ H, ct := fun σ H => At K W ms ⟨B.h0, Hb⟩ (R (i + 1)) σ H, bk := D.nx } σ' H')
    (hd : ∀ σ' H', At K W ms B (R ds.length) σ' H' → D.nx σ' H') : tFor wi g ts D σ H := sr ms B σ H h _ fun J H1 h1 x1 stm => by
  obtain ⟨G, Y, wk, st⟩ := stm
  refine for_it wk (fun i σ H => At K W ms ⟨B.h0, H1⟩ (R i) σ H) (h1.re.le l0) (fun i σ H _ p => (st H p.st p.p).1) (fun i x σ H H' hi p y => ?_) fun σ H p => hd σ H (h1.un p)
  obtain ⟨s, hdt⟩ := (st H p.st p.p).2 i x H' p.live y
  have hx : ds[i]? = some ds[i] := List.getElem?_eq_getElem hi
  obtain ⟨js, tj⟩ := tg i _ hx
  exact tj ms _ σ H' x (p.same s) (hdt _ hx) _ fun σ2 h2 _ => hs H1 i _ σ2 H' hx h2
theorem q_forP {R S : Nat → List Sl} (h : At K W ms B ρ σ H) (sr : SrcP K W wi ρ ds) (l0 : Le (R 0) ρ)
    (tg : ∀ i d, ds[i]? = some d → ∃ js, Tg K W g js d (R i) (S i))
    (hs : ∀ Hb i d σ' H', ds[i]? = some d → At K W ms ⟨B.h0, Hb⟩ (S i) σ' H' → ts { D with nx := fun σ H => At K W ms ⟨B.h0, Hb⟩ (R (i + 1)) σ H, ct := fun σ H => At K W ms ⟨B.h0, Hb⟩ (R (i + 1)) σ H, bk := tz D } σ' H')
    (hd : ∀ σ' H', At K W ms B (R ds.length) σ' H' → tz D σ' H') : tSeq (tFor wi g ts) tz D σ H := s_forP (D := { D with nx := tz D }) h sr l0 tg hs hd
/-- .. with something said of the heap -/
theorem s_forPX {R S : Nat → List Sl} {X : Nat → Hp → Prop} (h : At K W ms B ρ σ H) (sr : SrcP K W wi ρ ds) (l0 : Le (R 0) ρ) (x0 : ∀ H1, At K W ms B ρ σ H1 → XW W.ws H H1 → X 0 H1)
    (tg : ∀ i d, ds[i]? = some d → ∃ js, Tg K W g js d (R i) (S i))
    (hs : ∀ Hb i d σ' H', ds[i]? = some d → At K W ms ⟨B.h0, Hb⟩ (S i) σ' H' → X i H' → ts { D with nx := fun σ H => At K W ms ⟨B.h0, Hb⟩ (R (i + 1)) σ H ∧ X (i + 1) H, ct := fun σ H => At K W ms ⟨B.h0, Hb⟩ (R (i + 1)) σ H ∧ X (i + 1) H, bk := D.nx } σ' H')
    (hd : ∀ σ' H', At K W ms B (R ds.length) σ' H' → X ds.length H' → D.nx σ' H') (xs : ∀ i H H', Same H H' → Live ms H → X i H → X i H') : tFor wi g ts D σ H := sr ms B σ H h _ fun J H1 h1 x1 stm => by
  obtain ⟨G, Y, wk, st⟩ := stm
  refine for_it wk (fun i σ H => At K W ms ⟨B.h0, H1⟩ (R i) σ H ∧ X i H) ⟨h1.re.le l0, x0 H1 h1 x1⟩ (fun i σ H _ p => (st H p.1.st p.1.p).1) (fun i x σ H H' hi p y => ?_) fun σ H p => hd σ H (h1.un p.1) p.2
  obtain ⟨s, hdt⟩ := (st H p.1.st p.1.p).2 i x H' p.1.live y
  have hx : ds[i]? = some ds[i] := List.getElem?_eq_getElem hi
  obtain ⟨js, tj⟩ := tg i _ hx
  exact tj ms _ σ H' x (p.1.same s) (hdt _ hx) _ fun σ2 h2 _ => hs H1 i _ σ2 H' hx h2 (xs i H H' s p.1.live p.2)
theorem q_forPX {R S : Nat → List Sl} {X : Nat → Hp → Prop} (h : At K W ms B ρ σ H) (sr : SrcP K W wi ρ ds) (l0 : Le (R 0) ρ) (x0 : ∀ H1, At K W ms B ρ σ H1 → XW W.ws H H1 → X 0 H1)
    (tg : ∀ i d, ds[i]? = some d → ∃ js, Tg K W g js d (R i) (S i))
    (hs : ∀ Hb i d σ' H', ds[i]? = some d → At K W ms ⟨B.h0, Hb⟩ (S i) σ' H' → X i H' → ts { D with nx := fun σ H => At K W ms ⟨B.h0, Hb⟩ (R (i + 1)) σ H ∧ X (i + 1) H, ct := fun σ H => At K W ms ⟨B.h0, Hb⟩ (R (i + 1)) σ H ∧ X (i + 1) H, bk := tz D } σ' H')
    (hd : ∀ σ' H', At K W ms B (R ds.length) σ' H' → X ds.length H' → tz D σ' H') (xs : ∀ i H H', Same H H' → Live ms H → X i H → X i H') : tSeq (tFor wi g ts) tz D σ H := s_forPX (D := { D with nx := tz D }) h sr l0 x0 tg hs hd xs
/-- the for; the world changes from turn to turn -/
theorem s_forW {α : Type} {Wf : α → Wd} {Φ : Nat → α → Prop} {R S : Nat → List Sl} (p0 : α) (φ0 : Φ 0 p0) (h : At K (Wf p0) ms B ρ σ H) (sr : Src K (Wf p0) wi ρ ds) (l0 : Le (R 0) ρ)
    (tg : ∀ i p d, ds[i]? = some d → ∃ js, Tg K (Wf p) g js d (R i) (S i))
    (hs : ∀ Hb i p d σ' H', ds[i]? = some d → Φ i p → At K (Wf p) ms ⟨B.h0, Hb⟩ (S i) σ' H' → ts { D with nx := fun σ H => ∃ p', Φ (i + 1) p' ∧ At K (Wf p') ms ⟨B.h0, Hb⟩ (R (i + 1)) σ H, ct := fun σ H => ∃ p', Φ (i + 1) p' ∧ At K (Wf p') ms ⟨B.h0, Hb⟩ (R (i + 1)) σ H, bk := D.nx } σ' H')
    (hd : ∀ p σ' H', Φ ds.length p → At K (Wf p) ms B (R ds.length) σ' H' → D.nx σ' H') : tFor wi g ts D σ H := sr ms B σ H h _ fun J H1 h1 x1 stm => by
  obtain ⟨G, Y, wk, st⟩ := stm
  refine for_it wk (fun i σ H => ∃ p, Φ i p ∧ At K (Wf p) ms ⟨B.h0, H1⟩ (R i) σ H) ⟨p0, φ0, h1.re.le l0⟩ (fun i σ H _ ⟨p, _, a⟩ => (st ms H a.st).1) (fun i x σ H H' hi ⟨p, φ, a⟩ y => ?_) fun σ H ⟨p, φ, a⟩ => hd p σ H φ ⟨a.sub, a.live, a.env, a.p, a.xw, h1.st.trans a.st, a.c⟩
  obtain ⟨s, hdt⟩ := (st ms H a.st).2 i x H' a.live y
  have hx : ds[i]? = some ds[i] := List.getElem?_eq_getElem hi
  obtain ⟨js, tj⟩ := tg i p _ hx
  exact tj ms _ σ H' x (a.same s) (hdt _ hx) _ fun σ2 h2 _ => hs H1 i p _ σ2 H' hx φ h2
/-! enumerate -/
def enumD (ds : List PyData) : List PyData := List.zipWith (fun (i : Nat) d => PyData.tuple [.int (i : Nat), d]) (List.range ds.length) ds
theorem enumD_get {i : Nat} (h : (enumD ds)[i]? = some d) : ∃ x, ds[i]? = some x ∧ d = .tuple [.int (i : Nat), x] := by
  unfold enumD at h
  rw [List.getElem?_zipWith] at h
  cases e1 : (List.range ds.length)[i]? with
  | none => rw [e1] at h; cases h
  | some j =>
    obtain ⟨hl, e⟩ := List.getElem?_eq_some_iff.mp e1
    rw [List.getElem_range] at e
    subst e
    rw [e1] at h
    cases e2 : ds[i]? with
    | none => rw [e2] at h; cases h
    | some x =>
      rw [e2] at h
      cases h
      exact ⟨x, rfl, rfl⟩
theorem enumD_len : (enumD ds).length = ds.length := by
  unfold enumD
  rw [List.length_zipWith, List.length_range]
  exact Nat.min_self _
theorem enum_item {ms : List Addr} {H2 : Hp} {T : Addr} {w : V} {i : Nat} (l : Live ms H2) (hT : H2 T = none) (o : ∀ d, ds[i]? = some d → Dp K (cut ms H2) w d) :
    Same H2 (upd H2 T (.tup [.int (i : Nat), w])) ∧ ∀ d, (enumD ds)[i]? = some d → Dp K (cut ms (upd H2 T (.tup [.int (i : Nat), w]))) (.ref T) d := by
  refine ⟨same_put hT, fun d hd => ?_⟩
  obtain ⟨y, ey, rfl⟩ := enumD_get hd
  exact Sl.new_tup (ds := [.int (i : Nat), y]) l hT (.cons (.int _) (.cons (o y ey) .nil))
theorem src_enumL {ta : TA} (h : EvD K W ta ρ [.list ds]) : Src K W (iEnum K ta) ρ (enumD ds) := fun ms B σ H a R q => h ms B σ H a _ fun vs H1 h1 x1 o1 => by
  cases o1 with
  | cons o1 o2 =>
    cases o2
    cases o1 with
    | @lst p xs _ hs ha =>
      refine ⟨p, xs, rfl, sql_mono cut_le hs, q _ H1 h1 x1 ⟨fun H => SqL K H p xs, YPair (fun i => some (.int (i : Nat))) (fun i => xs[i]?), by rw [enumD_len, ← dpa_len ha]; exact walk_enum, fun ms' H2 s => ⟨sql_mono (s.trans cut_le) hs, fun i x H3 l y => ?_⟩⟩⟩
      obtain ⟨T, a, b, rfl, hT, rfl, e1, e2⟩ := y
      cases e1
      exact enum_item l hT fun d hd => by
        obtain ⟨d', e', o⟩ := dpa_get ha e2
        rw [hd] at e'
        cases e'
        exact dp_mono s _ _ o
def YEnT (xs : List V) : Nat → Hp → V → Hp → Prop := fun i H v H' => ∃ T x, v = .ref T ∧ H T = none ∧ H' = upd H T (.tup [.int (i : Nat), x]) ∧ xs[i]? = some x
theorem walk_enumT {a : Addr} {xs : List V} : Walk (IteT K a) xs.length (fun H => SqT K H a xs) (YEnT xs) :=
  ⟨fun i H hi q => ⟨xs, q, hi⟩, fun H q => ⟨xs, q, rfl⟩, fun i H v H' hi q ⟨T, x, h1, h2, h3, h4⟩ => ⟨T, x, h1, h2, h3, h4 xs q⟩⟩
theorem src_enumT {ta : TA} (h : EvD K W ta ρ [.tuple ds]) : Src K W (iEnumT K ta) ρ (enumD ds) := fun ms B σ H a R q => h ms B σ H a _ fun vs H1 h1 x1 o1 => by
  cases o1 with
  | cons o1 o2 =>
    cases o2
    cases o1 with
    | @tup p xs _ hs ha =>
      refine ⟨p, xs, rfl, sqt_mono cut_le hs, q _ H1 h1 x1 ⟨fun H => SqT K H p xs, YEnT xs, by rw [enumD_len, ← dpa_len ha]; exact walk_enumT, fun ms' H2 s => ⟨sqt_mono (s.trans cut_le) hs, fun i x H3 l y => ?_⟩⟩⟩
      obtain ⟨T, b, rfl, hT, rfl, e2⟩ := y
      exact enum_item l hT fun d hd => by
        obtain ⟨d', e', o⟩ := dpa_get ha e2
        rw [hd] at e'
        cases e'
        exact dp_mono s _ _ o
/-! zip of three -/
def YThree (xs ys zs : List V) : Nat → Hp → V → Hp → Prop := fun i H v H' => ∃ T x y z, v = .ref T ∧ H T = none ∧ H' = upd H T (.tup [x, y, z]) ∧ xs[i]? = some x ∧ ys[i]? = some y ∧ zs[i]? = some z
theorem walk_zip3 {a b c : Addr} {xs ys zs : List V} {n : Nat} (hn : n = min (min xs.length ys.length) zs.length) : Walk (Itz3 K a b c) n (fun H => SqL K H a xs ∧ SqL K H b ys ∧ SqL K H c zs) (YThree xs ys zs) := by
  subst hn
  exact ⟨fun i H hi q => ⟨xs, ys, zs, q.1, q.2.1, q.2.2, by omega, by omega, by omega⟩, fun H q => ⟨xs, ys, zs, q.1, q.2.1, q.2.2, rfl⟩, fun i H v H' hi q ⟨T, x, y, z, h1, h2, h3, h4, h5, h6⟩ => ⟨T, x, y, z, h1, h2, h3, h4 xs q.1, h5 ys q.2.1, h6 zs q.2.2⟩⟩
end
end Fw

/-! Wp, 1: pure states, the heap that stands behind them. -/
namespace Wp
open PySem L2 Fw
/-- what a slot holds: nothing, data, a list of one's own, the source of draws, an object that is no data -/
inductive Va where
  | emp | dat (d : PyData) | own (ds : List PyData) | src | obj (a : Addr)
/-- own lists read as data -/
def low (r : Addr) : Va → Sl
  | .emp => .emp
  | .dat d => .dat d
  | .own ds => .dat (.list ds)
  | .src => .raw (.ref r)
  | .obj a => .raw (.ref a)
/-- own lists unseen -/
def hid : Va → Va
  | .own _ => .emp
  | v => v
inductive Vs (r : Addr) : List Va → List Sl → List (Addr × List PyData) → Prop
  | nil : Vs r [] [] []
  | emp {env : List Va} {ρ : List Sl} {os : List (Addr × List PyData)} : Vs r env ρ os → Vs r (.emp :: env) (.emp :: ρ) os
  | dat {env : List Va} {ρ : List Sl} {os : List (Addr × List PyData)} (d : PyData) : Vs r env ρ os → Vs r (.dat d :: env) (.dat d :: ρ) os
  | src {env : List Va} {ρ : List Sl} {os : List (Addr × List PyData)} : Vs r env ρ os → Vs r (.src :: env) (.raw (.ref r) :: ρ) os
  | obj {env : List Va} {ρ : List Sl} {os : List (Addr × List PyData)} (a : Addr) : Vs r env ρ os → Vs r (.obj a :: env) (.raw (.ref a) :: ρ) os
  | own {env : List Va} {ρ : List Sl} {os : List (Addr × List PyData)} (l : Addr) (ds : List PyData) : Vs r env ρ os → Vs r (.own ds :: env) (.raw (.ref l) :: ρ) ((l, ds) :: os)
section
variable {K : PySem.W.Frag} {W : Wd} {r : Addr} {h0 hc : Hp} {ms ms0 ms1 : List Addr} {B : Bs} {H H' H1 : Hp} {env : List Va} {ρ : List Sl} {os : List (Addr × List PyData)} {σ : St} {v : V} {d : PyData} {ds es : List PyData} {l : Addr} {i : Nat}
theorem cut_sub (s : ∀ a ∈ ms1, a ∈ ms) : Same (cut ms H) (cut ms1 H) := fun a o e => by
  have n : a ∉ ms := fun z => by rw [cut_in z] at e; cases e
  rw [cut_out n] at e
  rw [cut_out fun z => n (s a z)]
  exact e
theorem Vs.lent (h : Vs r env ρ os) : ∀ {σ : St} {Hc Hd : Hp}, EnvOk K Hc ρ σ → Same Hc Hd → (∀ p ∈ os, Dp K Hd (.ref p.1) (.list p.2)) → EnvOk K Hd (env.map (low r)) σ := by
  induction h with
  | nil => intro σ Hc Hd e s o; cases e; exact .nil
  | emp h ih => intro σ Hc Hd e s o; cases e with | cons a b => exact .cons trivial (ih b s o)
  | dat d h ih => intro σ Hc Hd e s o; cases e with | cons a b => exact .cons (SlO.mono (s := .dat d) a s) (ih b s o)
  | src h ih => intro σ Hc Hd e s o; cases e with | cons a b => exact .cons (SlO.mono (s := .raw _) a s) (ih b s o)
  | obj a0 h ih => intro σ Hc Hd e s o; cases e with | cons a b => exact .cons (SlO.mono (s := .raw _) a s) (ih b s o)
  | own l ds h ih =>
    intro σ Hc Hd e s o
    cases e with
    | cons a b =>
      refine .cons ?_ (ih b s fun p hp => o p (List.mem_cons_of_mem _ hp))
      obtain ⟨v, rfl, e⟩ := SlO.back a (by intro q; cases q)
      have e' : v = .ref l := e
      subst e'
      exact o (l, ds) List.mem_cons_self
theorem Vs.hidden (h : Vs r env ρ os) : ∀ {σ : St} {Hc : Hp}, EnvOk K Hc ρ σ → EnvOk K Hc ((env.map hid).map (low r)) σ := by
  induction h with
  | nil => intro σ Hc e; cases e; exact .nil
  | emp h ih => intro σ Hc e; cases e with | cons a b => exact .cons trivial (ih b)
  | dat d h ih => intro σ Hc e; cases e with | cons a b => exact .cons a (ih b)
  | src h ih => intro σ Hc e; cases e with | cons a b => exact .cons a (ih b)
  | obj a0 h ih => intro σ Hc e; cases e with | cons a b => exact .cons a (ih b)
  | own l ds h ih => intro σ Hc e; cases e with | cons a b => exact .cons trivial (ih b)
theorem Vs.set (h : Vs r env ρ os) (d : PyData) : ∀ i : Nat, ∃ os', Vs r (env.set i (.dat d)) (ρ.set i (.dat d)) os' ∧ os'.Sublist os := by
  induction h with
  | nil => exact fun i => ⟨[], .nil, .refl _⟩
  | emp h ih => intro i; cases i with
    | zero => exact ⟨_, .dat d h, .refl _⟩
    | succ i => obtain ⟨os', a, b⟩ := ih i; exact ⟨os', .emp a, b⟩
  | dat e h ih => intro i; cases i with
    | zero => exact ⟨_, .dat d h, .refl _⟩
    | succ i => obtain ⟨os', a, b⟩ := ih i; exact ⟨os', .dat e a, b⟩
  | src h ih => intro i; cases i with
    | zero => exact ⟨_, .dat d h, .refl _⟩
    | succ i => obtain ⟨os', a, b⟩ := ih i; exact ⟨os', .src a, b⟩
  | obj a0 h ih => intro i; cases i with
    | zero => exact ⟨_, .dat d h, .refl _⟩
    | succ i => obtain ⟨os', a, b⟩ := ih i; exact ⟨os', .obj a0 a, b⟩
  | own l ds h ih => intro i; cases i with
    | zero => exact ⟨_, .dat d h, List.sublist_cons_self _ _⟩
    | succ i => obtain ⟨os', a, b⟩ := ih i; exact ⟨_, .own l ds a, b.cons₂ _⟩
theorem Vs.setOwn (h : Vs r env ρ os) (l : Addr) (ds : List PyData) : ∀ i : Nat, ∃ os', Vs r (env.set i (.own ds)) (ρ.set i (.raw (.ref l))) os' ∧ (∀ p ∈ os', p = (l, ds) ∨ p ∈ os) ∧ (l ∉ os.map (·.1) → (os.map (·.1)).Nodup → (os'.map (·.1)).Nodup) := by
  have new : ∀ {os : List (Addr × List PyData)}, l ∉ os.map (·.1) → (os.map (·.1)).Nodup → (((l, ds) :: os).map (·.1)).Nodup := fun a b => List.nodup_cons.mpr ⟨a, b⟩
  have mem : ∀ {os : List (Addr × List PyData)}, ∀ p ∈ (l, ds) :: os, p = (l, ds) ∨ p ∈ os := fun p hp => List.mem_cons.mp hp
  induction h with
  | nil => exact fun i => ⟨[], .nil, (fun p hp => nomatch hp), fun _ z => z⟩
  | emp h ih => intro i; cases i with
    | zero => exact ⟨_, .own l ds h, mem, new⟩
    | succ i => obtain ⟨os', a, b⟩ := ih i; exact ⟨os', .emp a, b⟩
  | dat e h ih => intro i; cases i with
    | zero => exact ⟨_, .own l ds h, mem, new⟩
    | succ i => obtain ⟨os', a, b⟩ := ih i; exact ⟨os', .dat e a, b⟩
  | src h ih => intro i; cases i with
    | zero => exact ⟨_, .own l ds h, mem, new⟩
    | succ i => obtain ⟨os', a, b⟩ := ih i; exact ⟨os', .src a, b⟩
  | obj a0 h ih => intro i; cases i with
    | zero => exact ⟨_, .own l ds h, mem, new⟩
    | succ i => obtain ⟨os', a, b⟩ := ih i; exact ⟨os', .obj a0 a, b⟩
  | @own env ρ os l2 ds2 h ih => intro i; cases i with
    | zero =>
      refine ⟨_, .own l ds h, fun p hp => (List.mem_cons.mp hp).elim .inl fun q => .inr (List.mem_cons_of_mem _ q), fun n d => ?_⟩
      rw [List.map_cons, List.mem_cons, not_or] at n
      rw [List.map_cons, List.nodup_cons] at d
      exact new n.2 d.2
    | succ i =>
      obtain ⟨os', a, b, c⟩ := ih i
      refine ⟨_, .own l2 ds2 a, fun p hp => ?_, fun n d => ?_⟩
      · rcases List.mem_cons.mp hp with q | q
        · exact .inr (by rw [q]; exact List.mem_cons_self)
        · rcases b p q with q | q
          · exact .inl q
          · exact .inr (List.mem_cons_of_mem _ q)
      · rw [List.map_cons, List.mem_cons, not_or] at n
        rw [List.map_cons, List.nodup_cons] at d ⊢
        refine ⟨fun z => ?_, c n.2 d.2⟩
        obtain ⟨p, hp, e⟩ := List.mem_map.mp z
        rcases b p hp with q | q
        · rw [q] at e
          exact n.1 e
        · exact d.1 (e ▸ List.mem_map_of_mem q)
theorem Vs.at (h : Vs r env ρ os) : ∀ {i : Nat} {ds : List PyData}, env[i]? = some (.own ds) → (os.map (·.1)).Nodup → ∃ l, ρ[i]? = some (.raw (.ref l)) ∧ (l, ds) ∈ os ∧
    ∀ es, ∃ os', Vs r (env.set i (.own es)) ρ os' ∧ os'.map (·.1) = os.map (·.1) ∧ ∀ p ∈ os', p = (l, es) ∨ (p ∈ os ∧ p.1 ≠ l) := by
  induction h with
  | nil => intro i ds e; simp at e
  | emp h ih => intro i ds e n; cases i with
    | zero => cases e
    | succ i =>
      obtain ⟨l, a, b, c⟩ := ih (i := i) (by simpa using e) n
      refine ⟨l, by simpa using a, b, fun es => ?_⟩
      obtain ⟨os', x, y⟩ := c es
      exact ⟨os', .emp x, y⟩
  | dat d h ih => intro i ds e n; cases i with
    | zero => cases e
    | succ i =>
      obtain ⟨l, a, b, c⟩ := ih (i := i) (by simpa using e) n
      refine ⟨l, by simpa using a, b, fun es => ?_⟩
      obtain ⟨os', x, y⟩ := c es
      exact ⟨os', .dat d x, y⟩
  | src h ih => intro i ds e n; cases i with
    | zero => cases e
    | succ i =>
      obtain ⟨l, a, b, c⟩ := ih (i := i) (by simpa using e) n
      refine ⟨l, by simpa using a, b, fun es => ?_⟩
      obtain ⟨os', x, y⟩ := c es
      exact ⟨os', .src x, y⟩
  | obj a0 h ih => intro i ds e n; cases i with
    | zero => cases e
    | succ i =>
      obtain ⟨l, a, b, c⟩ := ih (i := i) (by simpa using e) n
      refine ⟨l, by simpa using a, b, fun es => ?_⟩
      obtain ⟨os', x, y⟩ := c es
      exact ⟨os', .obj a0 x, y⟩
  | @own env ρ os l2 ds2 h ih => intro i ds e n; cases i with
    | zero =>
      have e := Option.some.inj e
      cases e
      rw [List.map_cons, List.nodup_cons] at n
      refine ⟨l2, rfl, List.mem_cons_self, fun es => ⟨(l2, es) :: os, .own l2 es h, rfl, fun p hp => ?_⟩⟩
      rcases List.mem_cons.mp hp with q | q
      · exact .inl q
      · exact .inr ⟨List.mem_cons_of_mem _ q, fun z => n.1 (show l2 ∈ _ by rw [← z]; exact List.mem_map_of_mem (f := (·.1)) q)⟩
    | succ i =>
      rw [List.map_cons, List.nodup_cons] at n
      obtain ⟨l, a, b, c⟩ := ih (i := i) (by simpa using e) n.2
      refine ⟨l, by simpa using a, List.mem_cons_of_mem _ b, fun es => ?_⟩
      obtain ⟨os', x, y, z⟩ := c es
      refine ⟨(l2, ds2) :: os', .own l2 ds2 x, by rw [List.map_cons, List.map_cons, y], fun p hp => ?_⟩
      rcases List.mem_cons.mp hp with q | q
      · exact .inr ⟨by rw [q]; exact List.mem_cons_self, by rw [q]; exact fun w => n.1 (show l2 ∈ _ by rw [show l2 = l from w]; exact List.mem_map_of_mem (f := (·.1)) b)⟩
      · rcases z p q with w | w
        · exact .inl w
        · exact .inr ⟨List.mem_cons_of_mem _ w.1, w.2⟩
theorem Vs.frz (h : Vs r env ρ os) : ∀ {i : Nat} {l : Addr} {ds : List PyData}, env[i]? = some (.own ds) → ρ[i]? = some (.raw (.ref l)) → (os.map (·.1)).Nodup → (l, ds) ∈ os → ∃ os', Vs r (env.set i (.dat (.list ds))) (ρ.set i (.dat (.list ds))) os' ∧ os'.Sublist os ∧ l ∉ os'.map (·.1) := by
  induction h with
  | nil => intro i l ds e; simp at e
  | emp h ih => intro i l ds e e2 n m; cases i with
    | zero => cases e
    | succ i =>
      obtain ⟨os', a, b⟩ := ih (i := i) (by simpa using e) (by simpa using e2) n m
      exact ⟨os', .emp a, b⟩
  | dat d h ih => intro i l ds e e2 n m; cases i with
    | zero => cases e
    | succ i =>
      obtain ⟨os', a, b⟩ := ih (i := i) (by simpa using e) (by simpa using e2) n m
      exact ⟨os', .dat d a, b⟩
  | src h ih => intro i l ds e e2 n m; cases i with
    | zero => cases e
    | succ i =>
      obtain ⟨os', a, b⟩ := ih (i := i) (by simpa using e) (by simpa using e2) n m
      exact ⟨os', .src a, b⟩
  | obj a0 h ih => intro i l ds e e2 n m; cases i with
    | zero => cases e
    | succ i =>
      obtain ⟨os', a, b⟩ := ih (i := i) (by simpa using e) (by simpa using e2) n m
      exact ⟨os', .obj a0 a, b⟩
  | @own env ρ os l2 ds2 h ih => intro i l ds e e2 n m; cases i with
    | zero =>
      have e := Option.some.inj e
      have e2 := Option.some.inj e2
      cases e
      cases e2
      rw [List.map_cons, List.nodup_cons] at n
      exact ⟨os, .dat _ h, List.sublist_cons_self _ _, n.1⟩
    | succ i =>
      rw [List.map_cons, List.nodup_cons] at n
      have e : env[i]? = some (.own ds) := by simpa using e
      have e2 : ρ[i]? = some (.raw (.ref l)) := by simpa using e2
      obtain ⟨l3, a3, b3, _⟩ := h.at e n.2
      rw [e2] at a3
      cases a3
      obtain ⟨os', a, b, c⟩ := ih (i := i) e e2 n.2 b3
      refine ⟨_, .own l2 ds2 a, b.cons₂ _, fun z => ?_⟩
      rw [List.map_cons, List.mem_cons] at z
      rcases z with q | q
      · exact n.1 (show l2 ∈ _ by rw [← show l = l2 from q]; exact List.mem_map_of_mem (f := (·.1)) b3)
      · exact c q
/-! ### the heap behind a pure state -/
structure AtE0 (K : PySem.W.Frag) (W : Wd) (r : Addr) (h0 hc : Hp) (ms0 : List Addr) (env : List Va) (σ : St) (H : Hp) (ms : List Addr) (ρ : List Sl) (os : List (Addr × List PyData)) : Prop where
  vs : Vs r env ρ os
  at_ : At K W ms ⟨h0, H⟩ ρ σ H
  hc : Same hc (cut ms H)
  ws0 : ∀ a ∈ W.ws, a ∈ ms0
  sub : ∀ a ∈ ms0, a ∈ ms
  nd : (os.map (·.1)).Nodup
  own : ∀ p ∈ os, Own K W ms ⟨h0, H⟩ p.1 p.2 H
  out : ∀ p ∈ os, p.1 ∉ ms0
def AtE (K : PySem.W.Frag) (W : Wd) (r : Addr) (h0 hc : Hp) (ms0 : List Addr) (env : List Va) (σ : St) (H : Hp) : Prop := ∃ ms ρ os, AtE0 K W r h0 hc ms0 env σ H ms ρ os
def les (os : List (Addr × List PyData)) (ms : List Addr) : List Addr := ms.filter fun a => decide (a ∉ os.map (·.1))
theorem mem_les {a : Addr} : a ∈ les os ms ↔ a ∈ ms ∧ a ∉ os.map (·.1) := by
  unfold les
  rw [List.mem_filter, decide_eq_true_eq]
theorem AtE0.lent (h : AtE0 K W r h0 hc ms0 env σ H ms ρ os) : At K W (les os ms) ⟨H, H⟩ (env.map (low r)) σ H := by
  have m : Same (cut ms H) (cut (les os ms) H) := cut_sub fun a z => (mem_les.mp z).1
  refine ⟨fun a z => mem_les.mpr ⟨h.at_.sub a z, fun q => ?_⟩, fun a z => h.at_.live a (mem_les.mp z).1, h.vs.lent h.at_.env m fun p hp => ?_, h.at_.p, .refl H, Same.refl _, W.mono _ _ m h.at_.c⟩
  · obtain ⟨p, hp, rfl⟩ := List.mem_map.mp q
    exact (h.own p hp).nws z
  · obtain ⟨vs, e, dd⟩ := (h.own p hp).val
    exact .lst (.inl (.inl (by rw [cut_out fun z => (mem_les.mp z).2 (List.mem_map_of_mem hp)]; exact e))) (dpa_mono m _ _ dd)
theorem AtE0.hidden (h : AtE0 K W r h0 hc ms0 env σ H ms ρ os) : At K W ms ⟨H, H⟩ ((env.map hid).map (low r)) σ H := ⟨h.at_.sub, h.at_.live, h.vs.hidden h.at_.env, h.at_.p, .refl H, Same.refl _, h.at_.c⟩
theorem AtE0.go (h : AtE0 K W r h0 hc ms0 env σ H ms ρ os) (x : XW W.ws H H1) (l : Live ms H1) (p : W.P H1) : AtE0 K W r h0 hc ms0 env σ H1 ms ρ os :=
  ⟨h.vs, (h.at_.go x l p).re, h.hc.trans (x.cut h.at_.sub), h.ws0, h.sub, h.nd, fun p hp => by
    have o := (h.own p hp).go h.at_.sub x
    exact ⟨o.mem, o.nws, o.h0, o.val⟩, h.out⟩
theorem AtE0.backL (h : AtE0 K W r h0 hc ms0 env σ H ms ρ os) {ρ' : List Sl} {σ' : St} (g : At K W (les os ms) B ρ' σ' H1) (x : XW W.ws H H1) : AtE0 K W r h0 hc ms0 env σ H1 ms ρ os := h.go x (fun a z => by
  by_cases q : a ∈ os.map (·.1)
  · obtain ⟨p, hp, rfl⟩ := List.mem_map.mp q
    obtain ⟨vs, e, _⟩ := (h.own p hp).val
    exact ⟨_, x _ _ (h.own p hp).nws e⟩
  · exact g.live a (mem_les.mpr ⟨z, q⟩)) g.p
theorem AtE0.backH (h : AtE0 K W r h0 hc ms0 env σ H ms ρ os) {ρ' : List Sl} {σ' : St} (g : At K W ms B ρ' σ' H1) (x : XW W.ws H H1) : AtE0 K W r h0 hc ms0 env σ H1 ms ρ os := h.go x g.live g.p
theorem AtE.re {hd : Hp} (s : Same hd hc) : AtE K W r h0 hc ms0 env σ H → AtE K W r h0 hd ms0 env σ H
  | ⟨ms, ρ, os, h⟩ => ⟨ms, ρ, os, ⟨h.vs, h.at_, s.trans h.hc, h.ws0, h.sub, h.nd, h.own, h.out⟩⟩
theorem AtE0.set (h : AtE0 K W r h0 hc ms0 env σ H ms ρ os) (o : Dp K (cut ms H) v d) (i : Nat) : ∃ os', AtE0 K W r h0 hc ms0 (env.set i (.dat d)) (σ.set i (some v)) H ms (ρ.set i (.dat d)) os' ∧ os'.Sublist os := by
  obtain ⟨os', a, b⟩ := h.vs.set d i
  exact ⟨os', ⟨a, h.at_.set (s := .dat d) o i, h.hc, h.ws0, h.sub, (b.map _).nodup h.nd, fun p hp => h.own p (b.subset hp), fun p hp => h.out p (b.subset hp)⟩, b⟩
/-- data without lists is apart from own lists -/
theorem apart_nolist {L : List Addr} (hL : ∀ a ∈ L, ∃ xs, H a = some (.lst xs)) (n : noList d = true) (h : Dp K (cut ms1 H) v d) : Dp K (cut (L ++ ms1) H) v d := by
  induction L with
  | nil => exact h
  | cons a L ih =>
    obtain ⟨xs, e⟩ := hL a List.mem_cons_self
    exact dp_nolist e d v n (ih fun b hb => hL b (List.mem_cons_of_mem _ hb))
theorem apart_nolists {vs : List V} {L : List Addr} (hL : ∀ a ∈ L, ∃ xs, H a = some (.lst xs)) (n : noLists ds = true) (h : DpAll K (cut ms1 H) vs ds) : DpAll K (cut (L ++ ms1) H) vs ds := by
  induction L with
  | nil => exact h
  | cons a L ih =>
    obtain ⟨xs, e⟩ := hL a List.mem_cons_self
    exact dpa_nolist e ds vs n (ih fun b hb => hL b (List.mem_cons_of_mem _ hb))
theorem AtE0.lists (h : AtE0 K W r h0 hc ms0 env σ H ms ρ os) : ∀ a ∈ os.map (·.1), ∃ xs, H a = some (.lst xs) := fun a z => by
  obtain ⟨p, hp, rfl⟩ := List.mem_map.mp z
  obtain ⟨vs, e, _⟩ := (h.own p hp).val
  exact ⟨vs, e⟩
theorem les_cover : ∀ a ∈ ms, a ∈ os.map (·.1) ++ les os ms := fun a z => by
  rw [List.mem_append, mem_les]
  by_cases q : a ∈ os.map (·.1)
  · exact .inl q
  · exact .inr ⟨z, q⟩
theorem AtE0.apart (h : AtE0 K W r h0 hc ms0 env σ H ms ρ os) (n : noList d = true) (o : Dp K (cut (les os ms) H) v d) : Dp K (cut ms H) v d := dp_mono (cut_sub les_cover) _ _ (apart_nolist h.lists n o)
/-- a new list of one's own -/
theorem AtE0.new {vs : List V} {p : Addr} (h : AtE0 K W r h0 hc ms0 env σ H ms ρ os) {ρ' : List Sl} {σ' : St} (l : Live ms H1) (pp : W.P H1) (x : XW W.ws H H1) (hp : H p = none) (e : H1 p = some (.lst vs)) (dd : DpAll K (cut (p :: ms) H1) vs ds) (i : Nat) :
    ∃ os', AtE0 K W r h0 hc ms0 (env.set i (.own ds)) (σ.set i (some (.ref p))) H1 (p :: ms) (ρ.set i (.raw (.ref p))) os' := by
  obtain ⟨h0p, pm, pw⟩ := h.at_.fresh hp
  have m1 : Same (cut ms H) (cut (p :: ms) H1) := (cut_new hp).trans (x.cut fun a z => List.mem_cons_of_mem _ (h.at_.sub a z))
  have po : p ∉ os.map (·.1) := fun z => by
    obtain ⟨q, hq, rfl⟩ := List.mem_map.mp z
    exact pm (h.own q hq).mem
  obtain ⟨os', a, b, c⟩ := h.vs.setOwn p ds i
  refine ⟨os', a, ((h.at_.adopt x (h.at_.go x l pp) hp e).set (s := .raw (.ref p)) rfl i).re, h.hc.trans m1, h.ws0, fun a z => List.mem_cons_of_mem _ (h.sub a z), c po h.nd, fun q hq => ?_, fun q hq => ?_⟩
  · rcases b q hq with w | w
    · rw [w]
      exact ⟨List.mem_cons_self, pw, h0p, vs, e, dd⟩
    · have o := h.own q w
      obtain ⟨us, eu, du⟩ := o.val
      exact ⟨List.mem_cons_of_mem _ o.mem, o.nws, o.h0, us, x _ _ o.nws eu, dpa_mono m1 _ _ du⟩
  · rcases b q hq with w | w
    · rw [w]
      exact fun z => pm (h.sub _ z)
    · exact h.out q w
/-- an own list is written -/
theorem AtE0.write {us : List V} (h : AtE0 K W r h0 hc ms0 env σ H ms ρ os) (e : env[i]? = some (.own ds)) : ∃ l vs, σ[i]? = some (some (.ref l)) ∧ l ∉ W.ws ∧ H l = some (.lst vs) ∧ DpAll K (cut ms H) vs ds ∧
    ∀ (us : List V) (es : List PyData), DpAll K (cut ms H) us es → ∃ os', AtE0 K W r h0 hc ms0 (env.set i (.own es)) σ (upd H l (.lst us)) ms ρ os' := by
  obtain ⟨l, er, hm, put⟩ := h.vs.at e h.nd
  have o := h.own _ hm
  obtain ⟨vs, ev, dv⟩ := o.val
  obtain ⟨w, ew, ow⟩ := h.at_.env.get er (by intro q; cases q)
  obtain rfl : w = .ref l := ow
  refine ⟨l, vs, ew, o.nws, ev, dv, fun us es du => ?_⟩
  obtain ⟨os', a, b, c⟩ := put es
  have m : Same (cut ms H) (cut ms (upd H l (.lst us))) := cut_put (.inl o.mem)
  refine ⟨os', a, (h.at_.write o.mem o.nws o.h0).re, h.hc.trans m, h.ws0, h.sub, by rw [b]; exact h.nd, fun q hq => ?_, fun q hq => ?_⟩
  · rcases c q hq with w | w
    · rw [w]
      exact ⟨o.mem, o.nws, o.h0, us, upd_same, dpa_mono m _ _ du⟩
    · have o2 := h.own q w.1
      obtain ⟨us2, eu, du2⟩ := o2.val
      exact ⟨o2.mem, o2.nws, o2.h0, us2, by rw [upd_ne w.2]; exact eu, dpa_mono m _ _ du2⟩
  · rcases c q hq with w | w
    · rw [w]; exact h.out (l, ds) hm
    · exact h.out q w.1
/-- an own list becomes data -/
theorem AtE0.frz (h : AtE0 K W r h0 hc ms0 env σ H ms ρ os) (e : env[i]? = some (.own ds)) : ∃ ms' ρ' os', AtE0 K W r h0 hc ms0 (env.set i (.dat (.list ds))) σ H ms' ρ' os' := by
  obtain ⟨l, er, hm, _⟩ := h.vs.at e h.nd
  have o := h.own _ hm
  obtain ⟨vs, ev, dv⟩ := o.val
  obtain ⟨w, ew, ow⟩ := h.at_.env.get er (by intro q; cases q)
  obtain rfl : w = .ref l := ow
  obtain ⟨os', a, b, c⟩ := h.vs.frz e er h.nd hm
  have ml : ∀ x, x ∈ ms.filter (fun a => decide (a ≠ l)) ↔ x ∈ ms ∧ x ≠ l := fun x => by rw [List.mem_filter, decide_eq_true_eq]
  have m : Same (cut ms H) (cut (ms.filter fun a => decide (a ≠ l)) H) := cut_sub fun x z => ((ml x).mp z).1
  have hd : Dp K (cut (ms.filter fun a => decide (a ≠ l)) H) (.ref l) (.list ds) := .lst (.inl (.inl (by rw [cut_out fun z => ((ml l).mp z).2 rfl]; exact ev))) (dpa_mono m _ _ dv)
  have es : σ.set i (some (.ref l)) = σ := by
    apply List.ext_getElem?
    intro j
    by_cases q : i = j
    · subst q
      rw [List.getElem?_set_self', ew]
      rfl
    · rw [List.getElem?_set_ne q]
  have hx := (h.at_.env.mono m).set (s := .dat (.list ds)) (o := some (.ref l)) hd i
  rw [es] at hx
  refine ⟨ms.filter fun a => decide (a ≠ l), _, os', a, ⟨fun x z => (ml x).mpr ⟨h.at_.sub x z, fun q => o.nws (q ▸ z)⟩, fun x z => h.at_.live x ((ml x).mp z).1, hx, h.at_.p, h.at_.xw, Same.refl _, W.mono _ _ m h.at_.c⟩, h.hc.trans m, h.ws0, fun x z => (ml x).mpr ⟨h.sub x z, fun q => h.out _ hm (q ▸ z)⟩, (b.map _).nodup h.nd, fun p hp => ?_, fun p hp => h.out p (b.subset hp)⟩
  have o2 := h.own p (b.subset hp)
  obtain ⟨us, eu, du⟩ := o2.val
  exact ⟨(ml _).mpr ⟨o2.mem, fun q => c (q ▸ List.mem_map_of_mem hp)⟩, o2.nws, o2.h0, us, eu, dpa_mono m _ _ du⟩
/-- at the end -/
theorem AtE0.end_ (h : AtE0 K W r h0 hc ms0 env σ H ms ρ os) : At K W ms0 ⟨h0, H⟩ [] [] H := ⟨h.ws0, fun a z => h.at_.live a (h.sub a z), .nil, h.at_.p, h.at_.xw, Same.refl _, W.mono _ _ (cut_sub h.sub) h.at_.c⟩
theorem AtE0.les_sub (h : AtE0 K W r h0 hc ms0 env σ H ms ρ os) : ∀ a ∈ ms0, a ∈ les os ms := fun a z => mem_les.mpr ⟨h.sub a z, fun q => by
  obtain ⟨p, hp, rfl⟩ := List.mem_map.mp q
  exact h.out p hp z⟩
end
end Wp

/-! zip of two, each a list or a tuple. -/
namespace Fw
open PySem PySem.Spec L2
open PyProof.Rows
def SqK (K : PySem.W.Frag) (k : Bool) (H : Hp) (a : Addr) (xs : List V) : Prop := if k then SqL K H a xs else SqT K H a xs
def IterK (k : Bool) (h : Heap) (it a : Addr) (i : Nat) : Prop := if k then h.IsListIter it a i else h.IsTupleIter it a i
def SeqK (k : Bool) (h : Heap) (a : Addr) (items : Array Value) : Prop := if k then h.IsList a items else h.IsTuple a items
def begO (k : Bool) (a : Addr) : Obj := if k then { cls := .type "list_iterator", data := .fields #[.ref a, .int 0 0] } else { cls := .type "tuple_iterator", data := .fields #[.ref a, .int 0 0] }
theorem begK (k : Bool) (a : Addr) (items : Array Value) : Begins (.ref a) (begO k a) fun h => SeqK k h a items := by
  cases k
  · exact begins_tuple a items
  · exact begins_list a items
theorem drawsK {prog : Program} {w : World} {A : Around} (hh : A.handled = none) (k : Bool) (it a : Addr) (ne : a ≠ it) (items : Array Value) :
    Draws prog w A it [it, a] items.size (fun i v => items[i]? = some v) (fun i h => IterK k h it a i ∧ SeqK k h a items) := by
  cases k
  · exact Draws.tuple hh it a ne items
  · exact Draws.list hh it a ne items
theorem IterK.at {k : Bool} {h h' : Heap} {it a : Addr} {i : Nat} (x : IterK k h it a i) (e : ∀ o, h.get? it = some o → h'.get? it = some o) : IterK k h' it a i := by
  cases k
  · exact Heap.IsTupleIter.at (show h.IsTupleIter it a i from x) e
  · exact Heap.IsListIter.at (show h.IsListIter it a i from x) e
theorem IterK.obj {k : Bool} {h : Heap} {it a : Addr} {i : Nat} (x : IterK k h it a i) : ∃ o, h.get? it = some o ∧ ∀ v, o.data ≠ .cell v := by
  cases k
  · obtain ⟨o, e, _, d⟩ := (show h.IsTupleIter it a i from x)
    exact ⟨o, e, fun v q => by rw [d] at q; cases q⟩
  · obtain ⟨o, e, _, d⟩ := (show h.IsListIter it a i from x)
    exact ⟨o, e, fun v q => by rw [d] at q; cases q⟩
theorem iterK0 {k : Bool} {h : Heap} {it a : Addr} (e : h.get? it = some (begO k a)) : IterK k h it a 0 := by
  cases k
  · exact ⟨_, e, rfl, rfl⟩
  · exact ⟨_, e, rfl, rfl⟩
theorem sqK_inv {X : Cx} {pins : List (Addr × Obj)} {σ : L2.St} {H : Hp} {s : Shared} {k : Bool} {a : Addr} {xs : List V} (I : Inv X pins σ H s) (q : SqK X.K k H a xs) : ∃ its, Vals xs its ∧ SeqK k s.heap a its.toArray ∧ a < s.heap.objs.size := by
  cases k
  · obtain ⟨its, r, p, _⟩ := I.tuple (show SqT X.K H a xs from q)
    refine ⟨its, r, p, ?_⟩
    obtain ⟨_, e, _⟩ := p
    exact Heap.lt_size e
  · obtain ⟨its, r, p, _⟩ := I.list (show SqL X.K H a xs from q)
    exact ⟨its, r, p.isList, p.lt⟩
theorem sqK_inj {X : Cx} {pins : List (Addr × Obj)} {σ : L2.St} {H : Hp} {s : Shared} {k : Bool} {a : Addr} {xs ys : List V} (I : Inv X pins σ H s) (q : SqK X.K k H a xs) (q' : SqK X.K k H a ys) : xs = ys := by
  cases k
  · exact I.tuple_inj (show SqT X.K H a xs from q) q'
  · exact I.list_inj (show SqL X.K H a xs from q) q'
def ItzX (K : PySem.W.Frag) (k1 k2 : Bool) (a b : Addr) : It :=
  ⟨fun i H => ∃ (xs ys : List V), SqK K k1 H a xs ∧ SqK K k2 H b ys ∧ i < xs.length ∧ i < ys.length,
    fun i H v H' => ∃ T x y, v = .ref T ∧ H T = none ∧ H' = upd H T (.tup [x, y]) ∧ (∀ xs, SqK K k1 H a xs → xs[i]? = some x) ∧ ∀ ys, SqK K k2 H b ys → ys[i]? = some y,
    fun i H => ∃ xs ys : List V, SqK K k1 H a xs ∧ SqK K k2 H b ys ∧ i = min xs.length ys.length⟩
theorem turn_zipX {P : Program} {w : World} {K : PySem.W.Frag} {elts : List Expr} {kk : Nat} {tpos : Pos} {k1 k2 : Bool} {a b N : Addr} (ha : a < N) (hb : b < N) :
    Turn P w K (.Tuple elts kk tpos) (ItzX K k1 k2 a b) [N + 4, N + 2, N + 3, N, N + 1] (N + 4) (fun i h => IsZip h (N + 4) (N + 2) (N + 3) .none ∧ IsTupOf2 h (N + 2) (.ref N) (.ref (N + 1)) ∧ (∃ x y, IsTupOf2 h (N + 3) x y) ∧ IterK k1 h N a i ∧ IterK k2 h (N + 1) b i) := by
  have S : ZipSep2 (N + 4) (N + 2) (N + 3) N (N + 1) (N :: [a]) ((N + 1) :: [b]) := zip_sep2 (fun x q => by rw [List.mem_singleton.mp q]; exact ha) (fun x q => by rw [List.mem_singleton.mp q]; exact hb)
  have na : a ≠ N := Nat.ne_of_lt ha
  have nb : b ≠ N + 1 := Nat.ne_of_lt (Nat.lt_succ_of_lt hb)
  have mem5 : ∀ {x : Addr}, x ∈ [N + 4, N + 2, N + 3, N, N + 1] → x = N + 4 ∨ x = N + 2 ∨ x = N + 3 ∨ x = N ∨ x = N + 1 := fun {x} h => by simpa using h
  have sub : ∀ q ∈ [N + 4, N + 3, N, N + 1], q ∈ [N + 4, N + 2, N + 3, N, N + 1] := fun q hq => by
    simp only [List.mem_cons, List.not_mem_nil, or_false] at hq ⊢
    rcases hq with h | h | h | h <;> simp [h]
  refine ⟨by simp, fun i h st x hx => ?_, fun i h h' st k => ?_, ?_, ?_, fun A i s Q E st h => wpAny_pyIter_zip st.1 h⟩
  · obtain ⟨hz, hTI, ⟨_, _, hTO⟩, h1, h2⟩ := st
    rcases mem5 hx with q | q | q | q | q
    · rw [q]; exact ⟨_, hz, fun v q => nomatch q⟩
    · rw [q]; exact ⟨_, hTI, fun v q => nomatch q⟩
    · rw [q]; exact ⟨_, hTO, fun v q => nomatch q⟩
    · rw [q]; exact h1.obj
    · rw [q]; exact h2.obj
  · obtain ⟨hz, hTI, ⟨x, y, hTO⟩, h1, h2⟩ := st
    exact ⟨k _ (by simp) _ hz, k _ (by simp) _ hTI, ⟨x, y, k _ (by simp) _ hTO⟩, h1.at fun o q => k N (by simp) o q, h2.at fun o q => k (N + 1) (by simp) o q⟩
  · intro X hP hw hK hc i pins s σ H E I hf st hg
    subst hP hw hK
    obtain ⟨hz, hTI, hTO, h1, h2⟩ := st
    obtain ⟨xs, ys, hqx, hqy, lx, ly⟩ := hg
    obtain ⟨its, rv, p, _⟩ := sqK_inv I hqx
    obtain ⟨its2, rv2, p2, _⟩ := sqK_inv I hqy
    have hh := I.ok.hd hc
    have W := GoesN.zip2 (prog := X.prog) (w := X.w) (A := X.A) (elts := elts) (x1 := kk) (pos := tpos) S (drawsK (A := X.A.in1) hh k1 N a na its.toArray) (drawsK (A := X.A.in1) hh k2 (N + 1) b nb its2.toArray)
    have e1 := rv.length
    have e2 := rv2.length
    refine W.goes i s (fun v s₂ => ∃ x H', Inv X pins σ H' s₂ ∧ RelV x v ∧ (ItzX X.K k1 k2 a b).yld i H x H' ∧ (IsZip s₂.heap (N + 4) (N + 2) (N + 3) .none ∧ IsTupOf2 s₂.heap (N + 2) (.ref N) (.ref (N + 1)) ∧ (∃ x y, IsTupOf2 s₂.heap (N + 3) x y) ∧ IterK k1 s₂.heap N a (i + 1) ∧ IterK k2 s₂.heap (N + 1) b (i + 1)) ∧ ∀ b ∈ [N + 4, N + 2, N + 3, N, N + 1], H' b = none) E
      (by simp only [List.size_toArray]; omega) ⟨hz, hTI, hTO, ⟨h1, p⟩, ⟨h2, p2⟩⟩ fun v h' tk Y st' hk htk => ?_
    obtain ⟨T, x, y, rfl, hnew, hx, hy, ⟨oT, eT, cT, nT, dT⟩⟩ := Y
    obtain ⟨z1, z2, z3, ⟨z4, _⟩, ⟨z5, _⟩⟩ := st'
    have gx : xs[i]? = some xs[i] := List.getElem?_eq_getElem lx
    have gy : ys[i]? = some ys[i] := List.getElem?_eq_getElem ly
    obtain ⟨v1, q1, r1⟩ := rv.get gx
    obtain ⟨v2, q2, r2⟩ := rv2.get gy
    have ex : v1 = x := Option.some.inj (q1.symm.trans (by simpa using hx))
    have ey : v2 = y := Option.some.inj (q2.symm.trans (by simpa using hy))
    rw [ex] at r1; rw [ey] at r2
    have new : ObjOk X.prog X.w (upd H T (.tup [xs[i], ys[i]])) h' T (.tup [xs[i], ys[i]]) :=
      ⟨by show 2 ≤ sizeLine; decide, [x, y], .cons r1 (.cons r2 .nil), ⟨oT, eT, cT, nT, dT⟩⟩
    have I1 : Inv X pins σ (upd H T (.tup [xs[i], ys[i]])) { s with heap := h', toks := tk } := I.turnedNew (t' := tk) (ch := [N + 4, N + 3, N, N + 1]) hk (fun q hq => hf q (sub q hq)) hnew new
    refine ⟨.ref T, _, I1, rfl, ⟨T, _, _, rfl, I.hok.fresh hnew, rfl, fun l hl => by rw [sqK_inj I hl hqx]; exact gx, fun l hl => by rw [sqK_inj I hl hqy]; exact gy⟩, ⟨z1, z2, z3, z4, z5⟩, fun q hq => ?_⟩
    have hlt : q < s.heap.objs.size := by
      obtain ⟨_, _, hTO⟩ := hTO
      obtain ⟨_, g1, _⟩ := h1.obj
      obtain ⟨_, g2, _⟩ := h2.obj
      rcases mem5 hq with z | z | z | z | z
      · rw [z]; exact Heap.lt_size hz
      · rw [z]; exact Heap.lt_size hTI
      · rw [z]; exact Heap.lt_size hTO
      · rw [z]; exact Heap.lt_size g1
      · rw [z]; exact Heap.lt_size g2
    rw [upd_ne (Nat.ne_of_lt (Nat.lt_of_lt_of_le hlt hnew))]
    exact (hf q hq).1
  · intro X hP hw hK hc i pins s σ H E I hf st hg
    subst hP hw hK
    obtain ⟨hz, hTI, hTO, h1, h2⟩ := st
    obtain ⟨xs, ys, hqx, hqy, hi⟩ := hg
    obtain ⟨its, rv, p, _⟩ := sqK_inv I hqx
    obtain ⟨its2, rv2, p2, _⟩ := sqK_inv I hqy
    have hh := I.ok.hd hc
    have W := GoesN.zip2 (prog := X.prog) (w := X.w) (A := X.A) (elts := elts) (x1 := kk) (pos := tpos) S (drawsK (A := X.A.in1) hh k1 N a na its.toArray) (drawsK (A := X.A.in1) hh k2 (N + 1) b nb its2.toArray)
    have e : i = min its.toArray.size its2.toArray.size := by
      rw [hi, List.size_toArray, List.size_toArray, rv.length, rv2.length]
    subst e
    exact W.stops s (fun s1 => Inv X pins σ H s1) E ⟨hz, hTI, hTO, ⟨h1, p⟩, ⟨h2, p2⟩⟩ fun h' tk hk _ => I.turnedL (t' := tk) (ch := [N + 4, N + 3, N, N + 1]) hk fun q hq => hf q (sub q hq)
def iZipX (K : PySem.W.Frag) (ta : TA) : TI := fun σ H R => ta σ H fun vs H1 => ∃ k1 k2 a b xs ys, vs = [.ref a, .ref b] ∧ SqK K k1 H1 a xs ∧ SqK K k2 H1 b ys ∧ R (ItzX K k1 k2 a b) H1
theorem pi_zipX {X : Cx} {e e2 : Expr} {ta : TA} {p pos tpos : Pos} {elts : List Expr} {kk : Nat} (hm : X.mg "zip" = none) (ha : PA X [e, e2] ta) (hg : X.env.kindOf "zip" = some .globalImplicit := by kernel_rfl)
    (hs : starEach [e, e2] X.env = (false, eval e X.env) :: starEach [e2] X.env := by kernel_rfl) (hpl : (backTo pos (starEach [e2] X.env)).any (·.1) = false := by kernel_rfl) :
    PI X (.Tuple elts kk tpos) (.Call (.Name "zip" p) [e, e2] [] pos) (iZipX X.K ta) := by
  refine ⟨fun pins s σ H R I h => ?_⟩
  refine Call_ (ld_blt I hg hm PyProof.Rows.boot_zip (PyProof.Rows.callWith_type1 (thn (ha.run pos pins s σ H _ I h) fun us s1 ⟨vs, H1, I1, r1, q1⟩ => ?_) hs hpl))
  obtain ⟨k1, k2, a, b, xs, ys, ex, hqx, hqy, q⟩ := q1
  subst ex
  cases r1 with
  | cons r rr =>
    cases rr with
    | cons r' rr =>
      cases rr
      cases r
      cases r'
      obtain ⟨its, rv, p1, la⟩ := sqK_inv I1 hqx
      obtain ⟨its2, rv2, p2, lb⟩ := sqK_inv I1 hqy
      refine zip_begins2 (begK k1 a its.toArray) (begK k2 b its2.toArray) p1 p2 fun h' hz hTI hTO h1 h2 hsz hk => wpAny_pyIter_zip hz ?_
      have I2 : Inv X pins σ H1 { s1 with heap := h' } := I1.kept (t' := s1.toks) hk
      refine ⟨s1.heap.objs.size + 4, _, _, _, H1, rfl, I2, turn_zipX (N := s1.heap.objs.size) la lb, ⟨hz, hTI, ⟨_, _, hTO⟩, iterK0 h1, iterK0 h2⟩, fun q hq => ?_, q⟩
      have hle : s1.heap.objs.size ≤ q := by
        have e' : q = s1.heap.objs.size + 4 ∨ q = s1.heap.objs.size + 2 ∨ q = s1.heap.objs.size + 3 ∨ q = s1.heap.objs.size ∨ q = s1.heap.objs.size + 1 := by simpa using hq
        rcases e' with z | z | z | z | z <;> rw [z]
        · exact Nat.le_add_right _ _
        · exact Nat.le_add_right _ _
        · exact Nat.le_add_right _ _
        · exact Nat.le_refl _
        · exact Nat.le_add_right _ _
      exact I1.fpOk hle (I1.hok.fresh hle)
section
variable {K : PySem.W.Frag} {W : Wd} {ρ : List Sl} {ta : TA} {ds es : List PyData}
theorem SqK.le {k : Bool} {H H' : Hp} {a : Addr} {xs : List V} (h : SqK K k H a xs) (s : Same H H') : SqK K k H' a xs := by
  cases k
  · exact sqt_mono s (show SqT K H a xs from h)
  · exact sql_mono s (show SqL K H a xs from h)
theorem sqK_of {b : Bool} {H : Hp} {v : V} (h : Dp K H v (sq b ds)) : ∃ p xs, v = .ref p ∧ SqK K b H p xs ∧ DpAll K H xs ds := by
  cases b
  · cases (show Dp K H v (.tuple ds) from h) with
    | tup hs ha => exact ⟨_, _, rfl, hs, ha⟩
  · cases (show Dp K H v (.list ds) from h) with
    | lst hs ha => exact ⟨_, _, rfl, hs, ha⟩
theorem walk_zipX {k1 k2 : Bool} {a b : Addr} {xs ys : List V} {n : Nat} (hn : n = min xs.length ys.length) : Walk (ItzX K k1 k2 a b) n (fun H => SqK K k1 H a xs ∧ SqK K k2 H b ys) (YPair (fun i => xs[i]?) (fun i => ys[i]?)) := by
  subst hn
  exact ⟨fun i H hi q => ⟨xs, ys, q.1, q.2, by omega, by omega⟩, fun H q => ⟨xs, ys, q.1, q.2, rfl⟩, fun i H v H' hi q ⟨T, x, y, h1, h2, h3, h4, h5⟩ => ⟨T, x, y, h1, h2, h3, h4 xs q.1, h5 ys q.2⟩⟩
theorem src_zipX {b1 b2 : Bool} (h : EvD K W ta ρ [sq b1 ds, sq b2 es]) : Src K W (iZipX K ta) ρ (List.zipWith (fun a b => PyData.tuple [a, b]) ds es) := fun ms B σ H a R q => h ms B σ H a _ fun vs H1 h1 x1 o1 => by
  cases o1 with
  | cons o1 o2 =>
    cases o2 with
    | cons o2 o3 =>
      cases o3
      obtain ⟨p1, v1, rfl, s1, d1⟩ := sqK_of o1
      obtain ⟨p2, v2, rfl, s2, d2⟩ := sqK_of o2
      refine ⟨b1, b2, p1, p2, v1, v2, rfl, s1.le cut_le, s2.le cut_le, q _ H1 h1 x1 ⟨_, _, walk_zipX (by rw [List.length_zipWith, dpa_len d1, dpa_len d2]), fun ms' H2 s => ⟨⟨s1.le (s.trans cut_le), s2.le (s.trans cut_le)⟩, fun i x H3 l y => ?_⟩⟩⟩
      exact pair_item l (dpa_mono s _ _ d1) (dpa_mono s _ _ d2) y
end
end Fw

/-! t[::-1], t a tuple. -/
namespace Fw
open PySem PySem.Spec PyProof.Rows L2 HT
section
variable {prog : Program} {w : World} {A : Around} {E : Value → Shared → Prop} {s : Shared}
theorem adjust_rev (n : Nat) : Builtin.Slice.sliceAdjust none none (-1) (n : Int) = ((n : Int) - 1, -1) := by
  unfold Builtin.Slice.sliceAdjust
  first | rfl | simp
theorem places_rev (n : Nat) : Builtin.Slice.slicePlaces ((n : Int) - 1) (-1) (-1) = n := by
  unfold Builtin.Slice.slicePlaces
  first
    | (simp; omega)
    | (split <;> omega)
    | simp
theorem sliceApplied_rev {sl : Addr} {vs : Value} {n : Nat} {Q : Int × Int × Nat → Shared → Prop} (hs : s.heap.IsSliceOf sl .none .none vs) (ps : IsPart vs (some (-1)))
    (h : Q ((n : Int) - 1, -1, n) s) : wpAny (model prog w) A (Builtin.Slice.sliceApplied (.ref sl) (pure (n : Int))) Q E s := by
  obtain ⟨os, hos, hcs, hds⟩ := id hs
  unfold Builtin.Slice.sliceApplied Builtin.Slice.sliceFields
  refine wpAny_bind (wpAny_bind (wpAny_field hos hds (x := .none) rfl (wpAny_bind (wpAny_field hos hds (x := .none) rfl (wpAny_bind (wpAny_field hos hds (x := vs) rfl (wpAny_pure ?_)))))))
  refine wpAny_bind (slicePart_ ps ?_)
  show wpAny _ _ (if ((-1 : Int) == 0) = true then _ else _) _ _ s
  rw [if_neg (by decide)]
  refine wpAny_bind (slicePart_ .none (wpAny_bind (slicePart_ .none (wpAny_bind (wpAny_pure ?_)))))
  show wpAny _ _ (match Builtin.Slice.sliceAdjust none none (-1) (n : Int) with | (lo, hi) => pure (lo, (-1 : Int), Builtin.Slice.slicePlaces lo hi (-1))) _ _ s
  rw [adjust_rev n]
  show wpAny _ _ (pure ((n : Int) - 1, (-1 : Int), Builtin.Slice.slicePlaces ((n : Int) - 1) (-1) (-1))) _ _ s
  rw [places_rev]
  exact wpAny_pure h
theorem pick_rev (xs : Array Value) : ((List.range xs.size).filterMap fun (m : Nat) => xs[((xs.size : Int) - 1 + (m : Int) * -1).toNat]?).toArray = xs.toList.reverse.toArray := by
  have h := PySem.W.krv_pick xs
  have e : ((List.range xs.size).filterMap fun (m : Nat) => xs[((xs.size : Int) - 1 + (m : Int) * -1).toNat]?) = xs.toList.reverse := by
    rw [← PySem.W.krv_all xs, ← List.filterMap_reverse, ← PySem.W.krv_range, List.filterMap_map]
    have k : ∀ l : List Nat, (∀ m ∈ l, m < xs.size) → l.filterMap (fun m : Nat => xs[((xs.size : Int) - 1 + (m : Int) * -1).toNat]?) = l.filterMap ((fun x => xs[x]?) ∘ fun k => xs.size - 1 - k) := by
      intro l
      induction l with
      | nil => intro _; rfl
      | cons m l ih =>
        intro hl
        have hm := hl m List.mem_cons_self
        have e1 : ((xs.size : Int) - 1 + (m : Int) * -1).toNat = xs.size - 1 - m := by omega
        rw [List.filterMap_cons, List.filterMap_cons, ih fun x hx => hl x (List.mem_cons_of_mem _ hx)]
        rw [e1]
        rfl
    exact k _ fun m hm => List.mem_range.mp hm
  rw [e]
theorem getItem_tuple_rev {t sl : Addr} {items : Array Value} {vs : Value} {Q : Value → Shared → Prop} (ht : IsTup s.heap t items) (hs : s.heap.IsSliceOf sl .none .none vs) (ps : IsPart vs (some (-1)))
    (h : Q (.ref s.heap.objs.size) { s with heap := s.heap.push { cls := .type "tuple", data := .seq items.toList.reverse.toArray } })
    (hsz : items.size ≤ sizeLine) : wpAny (model prog w) A (getItem (.ref t) (.ref sl)) Q E s := by
  have htake : sizeOk (.seq items.toList.reverse.toArray) := by
    show items.toList.reverse.toArray.size ≤ sizeLine
    rw [List.size_toArray, List.length_reverse, Array.length_toList]
    exact hsz
  obtain ⟨os, hos, hcs, hds⟩ := id hs
  have hTs : s.TypeIs (.ref sl) "slice" := ⟨os, hos, hcs⟩
  unfold getItem
  try with_reducible refine wpAny_holding ?_
  first | refine wpAny_bind (wpAny_pure ?_) | skip
  refine wpAny_bind (wpAny_sequenceKey ht.typeIs (by decide) ?_)
  refine wpAny_bind (wpAny_callSpecial?_slot (name := Str.ofString "__getitem__") ht.typeIs PyProof.Rows.slot_tuple_getitem
    (wpAny_call_entry PyProof.Rows.slot_tuple_getitem ht.typeIs entry_tuple_getitem ?_ (args_tuple_getitem _ _)))
  show wpAny _ _ (Builtin.Tuple.tupleItemsOf (.ref t) >>= _) _ _ s
  refine wpAny_bind (tupleItemsOf_ ht ?_)
  refine wpAny_bind (wpAny_typeOf hTs ?_)
  rw [if_pos (by decide)]
  refine wpAny_bind (sliceApplied_rev hs ps ?_)
  have hno : ¬ ((((items.size : Int) - 1) == 0 && (-1 : Int) == 1 && items.size == items.size) = true) := by
    intro q
    rw [Bool.and_eq_true, Bool.and_eq_true] at q
    exact absurd q.1.2 (by decide)
  show wpAny _ _ (if (((items.size : Int) - 1) == 0 && (-1 : Int) == 1 && items.size == items.size) = true then _ else _) _ _ s
  rw [if_neg hno, pick_rev]
  first
    | exact wpAny_bind (m := Builtin.Tuple.tupleExact _) (wpAny_newObj_type (wpAny_pure ⟨_, rfl, wpAny_pure h⟩) htake)
    | exact wpAny_bind (m := Builtin.Tuple.tupleExact _) (wpAny_newObj_type (wpAny_bind (wpAny_pure (wpAny_pure ⟨_, rfl, wpAny_pure h⟩))) htake)
    | exact wpAny_bind (wpAny_bind (m := Builtin.Tuple.tupleExact _) (wpAny_newObj_type (wpAny_pure (wpAny_pure ⟨_, rfl, wpAny_pure h⟩)) htake))
    | exact wpAny_bind (wpAny_bind (m := Builtin.Tuple.tupleExact _) (wpAny_newObj_type (wpAny_pure ⟨_, rfl, wpAny_pure h⟩) htake))
end
section
variable {X : Cx}
def tRevT (K : PySem.W.Frag) (te : TE) : TE := fun σ H Q => te σ H fun x H1 => ∃ a xs, x = .ref a ∧ SqT K H1 a xs ∧ ∀ p, H1 p = none → Q (.ref p) (upd H1 p (.tup xs.reverse))
theorem pe_revT {e : Expr} {te : TE} {k : Nat} {p1 p2 p3 pos : Pos} (he : PE X e te) : PE X (.Subscript e (.Slice none none (some (.UnaryOp .USub (.Constant (.int 1) k p1) p2)) p3) pos) (tRevT X.K te) := by
  refine ⟨fun pins s σ H Q I h => ?_⟩
  refine Subscript_ (thn (he.run pins s σ H _ I h) fun v s1 ⟨x, H1, I1, r1, q1⟩ => ?_)
  obtain ⟨a, xs, ex, hx, q⟩ := q1
  subst ex
  cases r1
  have hst : PO X (some (.UnaryOp .USub (.Constant (.int 1) k p1) p2)) (tPart (tUn (rU fun i => .int (-i)) (tC (.int 1)))) := po_some (pe_un un_neg pe_int)
  refine wpAny_Slice (thn (po_none.run pins s1 σ H1 (fun o H2 => o = none ∧ H2 = H1) I1 ⟨rfl, rfl⟩) fun vl s2 ⟨l, H2, I2, pl, el, e2⟩ => ?_)
  subst el e2
  refine thn (po_none.run pins s2 σ H2 (fun o H3 => o = none ∧ H3 = H2) I2 ⟨rfl, rfl⟩) fun vu s3 ⟨u, H3, I3, pu, eu, e3⟩ => ?_
  subst eu e3
  refine thn (hst.run pins s3 σ H3 (fun o H4 => o = some (-1) ∧ H4 = H3) I3 ⟨1, rfl, -1, rfl, rfl, rfl⟩) fun vs s4 ⟨o, H4, I4, ps, eo, e4⟩ => ?_
  subst eo e4
  cases pl
  cases pu
  have I5 : Inv X pins σ H4 { s4 with heap := s4.heap.push { cls := .type "slice", data := .fields #[.none, .none, vs] } } := I4.kept (t' := s4.toks) fun b ob q => Heap.get?_push_of_some _ q
  obtain ⟨its, r, ht, hz⟩ := I5.tuple hx
  show wpAny (model X.prog X.w) X.A (subscriptTail e (.Slice none none (some (.UnaryOp .USub (.Constant (.int 1) k p1) p2)) p3) (.ref a) (.ref s4.heap.objs.size)) (EP X pins σ Q) X.xe { s4 with heap := s4.heap.push { cls := .type "slice", data := .fields #[.none, .none, vs] } }
  refine tail_any (ops := [.ref a, .ref s4.heap.objs.size]) ht.typeIs (PyProof.Rows.slot_tuple_getitem.lookup) ?_ (by with_unfolding_all rfl)
  refine getItem_tuple_rev ht (Heap.IsSliceOf.new _ .none .none vs) ps ?_ (by rw [List.size_toArray, ← r.length]; exact hz)
  refine ⟨.ref _, _, I5.laid (t' := s4.toks) (o := .tup xs.reverse) (fun b ob q => Heap.get?_push_of_some _ q) (Nat.le_refl _) ?_, rfl, q _ (I5.hok.fresh (Nat.le_refl _))⟩
  exact ⟨by rw [List.length_reverse]; exact hz, _, r.reverse, IsTup.new _ _⟩
end
section
variable {K : PySem.W.Frag} {W : Wd} {ρ : List Sl} {te : TE} {ds : List PyData}
theorem ev_revT (h : Evd K W te ρ (.tuple ds)) : Evd K W (tRevT K te) ρ (.tuple ds.reverse) := fun ms B σ H g Q q => h ms B σ H g _ fun v H1 g1 x1 o1 => by
  cases o1 with
  | tup hs ha =>
    refine ⟨_, _, rfl, sqt_mono cut_le hs, fun p hp => ?_⟩
    exact q _ _ (g1.same (same_put hp)) (x1.trans (.of_same (same_put hp))) (Sl.new_tup g1.live hp (dpa_rev ha))
/-- tuple(range(n)) -/
theorem ev_tupRg {n : Nat} (h : Evd K W te ρ (.int (n : Int))) (hn : n ≤ 100000) : Evd K W (tTupRg (tRg1 te)) ρ (.tuple ((List.range n).map fun i => PyData.int (i : Nat))) := fun ms B σ H g Q q => h ms B σ H g _ fun v H1 g1 x1 o1 => by
  cases o1
  refine ⟨n, rfl, ⟨by omega, by omega, by omega, by omega, by omega⟩, fun p hp => ?_⟩
  refine q _ _ (g1.same (same_put hp)) (x1.trans (.of_same (same_put hp))) (Sl.new_tup g1.live hp ?_)
  have := dpa_rg K (cut ms H1) 0 (n : Int)
  simp only [Int.sub_zero, Int.toNat_natCast, Int.zero_add] at this
  exact this
/-- range(a, b, -1) -/
theorem src_down {ta : TA} {a b : Int} (h : EvD K W ta ρ [.int a, .int b, .int (-1)]) (ha : -1000000 ≤ a ∧ a ≤ 1000000) (hb : -1000000 ≤ b ∧ b ≤ 1000000) : Src K W (iRng3 ta) ρ ((List.range (a - b).toNat).map fun i => PyData.int (a - (i : Nat))) := fun ms B σ H g R q => h ms B σ H g _ fun vs H1 h1 x1 o1 => by
  cases o1 with
  | cons o1 o2 =>
    cases o2 with
    | cons o2 o3 =>
      cases o3 with
      | cons o3 o4 =>
        cases o1; cases o2; cases o3; cases o4
        refine ⟨a, b, -1, _, rfl, RgC.neg (by omega) (by omega) (by omega) (by omega), q _ H1 h1 x1 ⟨fun _ => True, YFn fun i => .int (a + (i : Nat) * (-1)), ?_, fun ms' H2 s => ⟨trivial, fun i x H3 l y => ?_⟩⟩⟩
        · rw [List.length_map, List.length_range]
          exact walk_rangeC
        · obtain ⟨rfl, rfl⟩ := y
          refine ⟨Same.refl _, fun d hd => ?_⟩
          rw [List.getElem?_map] at hd
          cases e : (List.range (a - b).toNat)[i]? with
          | none => rw [e] at hd; cases hd
          | some j =>
            rw [e] at hd
            obtain ⟨hl, e'⟩ := List.getElem?_eq_some_iff.mp e
            rw [List.getElem_range] at e'
            subst e'
            cases hd
            show Dp K _ (V.int (a + _ * -1)) _
            rw [show a + (i : Int) * -1 = a - i by omega]
            exact .int _
end

section
variable {X : Cx} {e : Expr} {p pos : Pos}
theorem ktupRg {t : L2.St → Hp → (Int → Int → Hp → Prop) → Prop} (hm : X.mg "tuple" = none) (he : PRg X e t) (hc : X.calm = true := by rfl) (hg : X.env.kindOf "tuple" = some .globalImplicit := by kernel_rfl) (na : starEach [e] X.env = (false, eval e X.env) :: starEach [] X.env := by kernel_rfl) : PE X (.Call (.Name "tuple" p) [e] [] pos) (tTupRg t) := pe_tupRg hc hg hm he na
end
end Fw

/-! sorted of a list of tuples of ints of one length, of any number. -/
namespace Fw
open PySem PyProof.Rows L2
theorem swo_code (h : Heap) (B : Int) : SrtO.Swo fun v u => decide (TS.code B (TS.intsOf h v) < TS.code B (TS.intsOf h u)) := by
  refine ⟨fun x y z => ?_, fun x y z a b => ?_⟩
  · simp only [decide_eq_true_eq, decide_eq_false_iff_not] at z ⊢
    omega
  · simp only [decide_eq_false_iff_not] at a b ⊢
    omega
section
variable {prog : Program} {w : World} {A : Around} {s : Shared}
theorem sortableTI {a : Addr} {vs : List Value} {d : Nat} {B : Int} (hd : 1 ≤ d) (h2 : 2 ≤ vs.length) (x : TS.TupsOk s.heap d B vs) (ha : ∀ o, s.heap.get? a = some o → o.cls ≠ .type "tuple") (key : Value → List Int) (hk : ∀ v ∈ vs, ∀ ns, TS.TupInts s.heap v ns → key v = ns) :
    SrtO.SortableO prog w A s a vs fun v u => decide (TS.code B (key v) < TS.code B (key u)) := by
  intro h' keep
  have kk : ∀ b o, s.heap.get? b = some o → o.cls = .type "tuple" → h'.get? b = some o := fun b o e c => keep b o (fun z => by subst z; exact ha o e c) e
  have x' : TS.TupsOk ({ s with heap := h' } : Shared).heap d B vs := x.keeps kk
  obtain ⟨fs, k, hl, hi⟩ := TS.firsts_of hd vs x'
  refine ⟨_, fun Q E hq => PySem.W.kat_kind (s := { s with heap := h' }) (T := Value.type "int") k (by omega) (fun f hf => ?_) rfl hq, fun p q hp hq => ?_⟩
  · obtain ⟨n, t, rfl⟩ := hi f hf
    exact PySem.W.Looks.of_pure rfl
  · obtain ⟨ns, tp, lp, bp⟩ := x _ hp
    obtain ⟨ms, tq, lq, bq⟩ := x _ hq
    have ep := hk _ hp _ tp
    have eq2 := hk _ hq _ tq
    have tp' := tp.keeps kk
    have tq' := tq.keeps kk
    obtain ⟨a1, xs, e1, ⟨o, ho, hc, n, hdt⟩, i⟩ := tp'
    obtain ⟨a2, ys, e2, ⟨o', ho', hc', n', hdt'⟩, i'⟩ := tq'
    show wpAny (model prog w) A (keyLt' _ p.1 q.1) (fun r s' => s' = ({ s with heap := h' } : Shared) ∧ r = decide (TS.code B (key p.1) < TS.code B (key q.1))) (fun _ _ => False) { s with heap := h' }
    rw [ep, eq2]
    rw [e1, e2]
    refine PySem.W.kat_lt (s := { s with heap := h' }) ho hdt ho' hdt' ?_
    have sz : decide (xs.size < ys.size) = false := by
      have l1 := i.length
      have l2 := i'.length
      rw [Array.length_toList] at l1 l2
      exact decide_eq_false (by omega)
    rw [sz]
    exact TS.lex_ints 0 i i' (by omega) bp bq ⟨rfl, rfl⟩
end
/-- sorted(xs): a new list of the same -/
def rSortedTI (K : PySem.W.Frag) : List V → Hp → VK → Prop := fun vs H Q => ∃ (a : Addr) (xs : List V) (d : Nat) (B : Int), vs = [V.ref a] ∧ SqL K H a xs ∧ (2 ≤ xs.length → 1 ≤ d) ∧ (∀ x ∈ xs, ∃ ns, TupI K H x ns ∧ ns.length = d ∧ TS.Bd B ns) ∧
  ∀ (ys : List V) (p : Addr), ys.Perm xs → H p = none → Q (.ref p) (upd H p (.lst ys))
section
variable {X : Cx}
theorem cr_sortedTI : CallR X (.builtin "sorted") (rSortedTI X.K) := by
  intro pins s σ H vs us Q I r h
  obtain ⟨a, xs, d, B, rfl, hs, hd, hx, q⟩ := h
  obtain ⟨its, rv, hl, hz⟩ := I.list hs
  rw [Vals.ref1 r]
  obtain ⟨e1, e2⟩ := bkV_refs rv fun x m => by
    obtain ⟨ns, ⟨t, e, _⟩, _⟩ := hx x m
    exact ⟨t, e⟩
  have tk : TS.TupsOk s.heap d B its := fun v hv => by
    obtain ⟨t, rfl⟩ := e2 v hv
    have hm : V.ref t ∈ xs := by
      rw [e1]
      exact List.mem_map.mpr ⟨_, hv, rfl⟩
    obtain ⟨ns, ⟨t', e, ht⟩, hn, hb⟩ := hx _ hm
    cases e
    exact ⟨ns, tupI_raw I ht, hn, hb⟩
  refine SrtO.sorted_ord (swo_code s.heap B) hl.isList (by rw [← rv.length]; exact hz) (fun h2 h₁ b hb kk => ?_) fun out h1 h2 => ?_
  · refine sortableTI (s := { s with heap := h₁ }) (d := d) (hd (by rw [rv.length]; exact h2)) h2 (tk.keeps fun b o e _ => (kk b o e).2) (fun o e => ?_) _ fun v hv ns t => ?_
    · have e' : some o = some (seqObj "list" its.toArray 0) := e.symm.trans hb
      cases e'
      intro c
      exact absurd (Value.type.inj c) (by decide)
    · obtain ⟨ms, t2, _⟩ := tk v hv
      have t3 : TS.TupInts h₁ v ms := t2.keeps fun b o e _ => (kk b o e).2
      have e5 : ns = ms := t.ints.symm.trans t3.ints
      rw [e5]
      exact t2.ints
  · obtain ⟨ep, he'⟩ := PyProof.Rows.sortedAll_at s.heap its out.toArray
    have h3 : ∀ u ∈ out, ∃ a, u = Value.ref a := fun u hu => e2 u (h2.perm.mem_iff.mp hu)
    have hp : (out.map bkV).Perm xs := by
      rw [e1]
      exact h2.perm.map bkV
    have hlen : (out.map bkV).length ≤ sizeLine := by
      rw [hp.length_eq]
      exact hz
    exact ⟨.ref _, upd H (s.heap.objs.size + 1) (.lst (out.map bkV)), I.laid (t' := s.toks) (fun _ _ => PyProof.Rows.sortedAll_old) (Nat.le_succ _) ⟨hlen, out, ep, bkV_vals h3, he'⟩, rfl, q _ _ hp (I.hok.fresh (Nat.le_succ _))⟩
end
end Fw

/-! Wp, 2: what an expression wishes, in data alone. -/
namespace Wp
open PySem L2 Fw
abbrev FE := List Va → (PyData → Prop) → Prop
abbrev FT := List Va → (Bool → Prop) → Prop
abbrev FA := List Va → (List PyData → Prop) → Prop
def ifK (b : Bool) (A B : Prop) : Prop := match b with
  | true => A
  | false => B
theorem ifK_of {b : Bool} {A B : Prop} (h1 : b = true → A) (h2 : b = false → B) : ifK b A B := by
  cases b
  · exact h2 rfl
  · exact h1 rfl
theorem ifK_t {b : Bool} {A B : Prop} (e : b = true) (h : A) : ifK b A B := by subst e; exact h
theorem ifK_f {b : Bool} {A B : Prop} (e : b = false) (h : B) : ifK b A B := by subst e; exact h
def varK (env : List Va) (i : Nat) (Φ : PyData → Prop) : Prop := match env[i]? with
  | some (.dat d) => Φ d
  | some (.own ds) => Φ (.list ds)
  | _ => False
def srcK (env : List Va) (i : Nat) (A : Prop) : Prop := match env[i]? with
  | some .src => A
  | _ => False
def intK (d : PyData) (Φ : Int → Prop) : Prop := match d with
  | .int i => Φ i
  | _ => False
def strK (d : PyData) (Φ : Str → Prop) : Prop := match d with
  | .str i => Φ i
  | _ => False
def blK (d : PyData) (Φ : Bool → Prop) : Prop := match d with
  | .bool i => Φ i
  | _ => False
def lstK (d : PyData) (Φ : List PyData → Prop) : Prop := match d with
  | .list i => Φ i
  | _ => False
def tupK (d : PyData) (Φ : List PyData → Prop) : Prop := match d with
  | .tuple i => Φ i
  | _ => False
def seqK (d : PyData) (Φ : List PyData → Prop) : Prop := match d with
  | .list i => Φ i
  | .tuple i => Φ i
  | _ => False
def oneK (ds : List PyData) (Φ : PyData → Prop) : Prop := match ds with
  | [d] => Φ d
  | _ => False
def twoK (ds : List PyData) (Φ : PyData → PyData → Prop) : Prop := match ds with
  | [d, e] => Φ d e
  | _ => False
theorem intK_of {d : PyData} {Φ : Int → Prop} (h : intK d Φ) : ∃ i, d = .int i ∧ Φ i := by cases d <;> first | exact ⟨_, rfl, h⟩ | exact False.elim h
theorem strK_of {d : PyData} {Φ : Str → Prop} (h : strK d Φ) : ∃ i, d = .str i ∧ Φ i := by cases d <;> first | exact ⟨_, rfl, h⟩ | exact False.elim h
theorem blK_of {d : PyData} {Φ : Bool → Prop} (h : blK d Φ) : ∃ i, d = .bool i ∧ Φ i := by cases d <;> first | exact ⟨_, rfl, h⟩ | exact False.elim h
theorem lstK_of {d : PyData} {Φ : List PyData → Prop} (h : lstK d Φ) : ∃ i, d = .list i ∧ Φ i := by cases d <;> first | exact ⟨_, rfl, h⟩ | exact False.elim h
theorem tupK_of {d : PyData} {Φ : List PyData → Prop} (h : tupK d Φ) : ∃ i, d = .tuple i ∧ Φ i := by cases d <;> first | exact ⟨_, rfl, h⟩ | exact False.elim h
theorem oneK_of {ds : List PyData} {Φ : PyData → Prop} (h : oneK ds Φ) : ∃ d, ds = [d] ∧ Φ d := by
  match ds, h with
  | [d], h => exact ⟨d, rfl, h⟩
theorem twoK_of {ds : List PyData} {Φ : PyData → PyData → Prop} (h : twoK ds Φ) : ∃ d e, ds = [d, e] ∧ Φ d e := by
  match ds, h with
  | [d, e], h => exact ⟨d, e, rfl, h⟩
section
variable (K : PySem.W.Frag) (W : Wd) (r : Addr)
def JE (te : TE) (f : FE) : Prop := ∀ env Φ, f env Φ → En K W te (env.map (low r)) (IsD Φ)
def JT (tt : TT) (f : FT) : Prop := ∀ env Φ, f env Φ → EnT K W tt (env.map (low r)) Φ
def JA (n : Nat) (ta : TA) (f : FA) : Prop := ∀ env Φ, f env Φ → EnD K W ta (env.map (low r)) fun ds => ds.length = n ∧ Φ ds
def JF (te : TE) (f : FA) : Prop := ∀ env Φ, f env Φ → EvF K W te (env.map (low r)) Φ
def JI (wi : TI) (f : FA) : Prop := ∀ env Φ, f env Φ → SrcN K W wi (env.map (low r)) Φ
end
section
variable {K : PySem.W.Frag} {W : Wd} {r : Addr} {ms : List Addr} {B : Bs} {H H' : Hp} {ρ : List Sl} {σ : St} {ta tb tc te : TE} {tA tB' : TA} {tt t u : TT} {wi : TI} {fa fb fc f g : FE} {ft fu : FT} {fA fB : FA} {n : Nat} {v w : V} {x y d : PyData} {ds : List PyData}
/-! lifting of the frame's rules -/
def WC (W : Wd) (K : PySem.W.Frag) (v : V) (x : PyData) : Wd := { ws := W.ws, P := W.P, sup := W.sup, C := fun H => W.C H ∧ Dp K H v x, mono := fun H H' s h => ⟨W.mono H H' s h.1, dp_mono s _ _ h.2⟩ }
def WCs (W : Wd) (K : PySem.W.Frag) (vs : List V) (xs : List PyData) : Wd := { ws := W.ws, P := W.P, sup := W.sup, C := fun H => W.C H ∧ DpAll K H vs xs, mono := fun H H' s h => ⟨W.mono H H' s h.1, dpa_mono s _ _ h.2⟩ }
theorem at_c (h : At K W ms B ρ σ H) (o : Dp K (cut ms H) v x) : At K (WC W K v x) ms B ρ σ H := ⟨h.sub, h.live, h.env, h.p, h.xw, h.st, h.c, o⟩
theorem of_c (h : At K (WC W K v x) ms B ρ σ H) : At K W ms B ρ σ H := ⟨h.sub, h.live, h.env, h.p, h.xw, h.st, h.c.1⟩
theorem at_cs {vs : List V} (h : At K W ms B ρ σ H) (o : DpAll K (cut ms H) vs ds) : At K (WCs W K vs ds) ms B ρ σ H := ⟨h.sub, h.live, h.env, h.p, h.xw, h.st, h.c, o⟩
theorem of_cs {vs : List V} (h : At K (WCs W K vs ds) ms B ρ σ H) : At K W ms B ρ σ H := ⟨h.sub, h.live, h.env, h.p, h.xw, h.st, h.c.1⟩
theorem evd_c : Evd K (WC W K v x) (tC v) ρ x := fun ms B σ H a Q q => q v H a (.refl H) a.c.2
theorem evd_cL : Evd K (WC (WC W K v x) K w y) (tC v) ρ x := fun ms B σ H a Q q => q v H a (.refl H) a.c.1.2
theorem evD_c {vs : List V} : EvD K (WCs W K vs ds) (fun _ H Q => Q vs H) ρ ds := fun ms B σ H a Q q => q vs H a (.refl H) a.c.2
theorem je_lift {F : TE → TE} {op : PyData → (PyData → Prop) → Prop} (ha : JE K W r ta fa) (hF : ∀ σ H Q, (ta σ H fun v H1 => F (tC v) σ H1 Q) → F ta σ H Q)
    (rule : ∀ x Φ, op x Φ → ∃ d, Φ d ∧ ∀ (W' : Wd) (te' : TE) (ρ : List Sl), Evd K W' te' ρ x → Evd K W' (F te') ρ d) : JE K W r (F ta) (fun env Φ => fa env fun x => op x Φ) := fun env Φ h ms B σ H a Q q =>
  hF _ _ _ (ha env _ h ms B σ H a _ fun s v H1 φ h1 x1 o1 => by
    obtain ⟨x, rfl, φ⟩ := φ
    obtain ⟨d, hd, ru⟩ := rule x Φ φ
    exact ru (WC W K v x) (tC v) _ evd_c ms B σ H1 (at_c h1 o1) Q fun w H2 h2 x2 o2 => q (.dat d) w H2 ⟨d, rfl, hd⟩ (of_c h2) (x1.trans x2) o2)
theorem je_lift2 {F : TE → TE → TE} {op : PyData → PyData → (PyData → Prop) → Prop} (ha : JE K W r ta fa) (hb : JE K W r tb fb) (hF : ∀ σ H Q, (ta σ H fun v H1 => tb σ H1 fun w H2 => F (tC v) (tC w) σ H2 Q) → F ta tb σ H Q)
    (rule : ∀ x y Φ, op x y Φ → ∃ d, Φ d ∧ ∀ (W' : Wd) (te' te2 : TE) (ρ : List Sl), Evd K W' te' ρ x → Evd K W' te2 ρ y → Evd K W' (F te' te2) ρ d) : JE K W r (F ta tb) (fun env Φ => fa env fun x => fb env fun y => op x y Φ) := fun env Φ h ms B σ H a Q q =>
  hF _ _ _ (ha env _ h ms B σ H a _ fun s v H1 φ h1 x1 o1 => by
    obtain ⟨x, rfl, φ⟩ := φ
    refine hb env _ φ ms B σ H1 h1 _ fun s w H2 φ2 h2 x2 o2 => ?_
    obtain ⟨y, rfl, φ2⟩ := φ2
    obtain ⟨d, hd, ru⟩ := rule x y Φ φ2
    exact ru (WC (WC W K v x) K w y) (tC v) (tC w) _ evd_cL evd_c ms B σ H2 (at_c (at_c h2 (dp_mono (x2.cut h1.sub) _ _ o1)) o2) Q fun z H3 h3 x3 o3 => q (.dat d) z H3 ⟨d, rfl, hd⟩ (of_c (of_c h3)) ((x1.trans x2).trans x3) o3)
theorem je_liftA {F : TA → TE} {op : List PyData → (PyData → Prop) → Prop} (ha : JA K W r n tA fA) (hF : ∀ σ H Q, (tA σ H fun vs H1 => F (fun _ H Q => Q vs H) σ H1 Q) → F tA σ H Q)
    (rule : ∀ ds Φ, ds.length = n → op ds Φ → ∃ d, Φ d ∧ ∀ (W' : Wd) (ta' : TA) (ρ : List Sl), EvD K W' ta' ρ ds → Evd K W' (F ta') ρ d) : JE K W r (F tA) (fun env Φ => fA env fun ds => op ds Φ) := fun env Φ h ms B σ H a Q q =>
  hF _ _ _ (ha env _ h ms B σ H a _ fun ds vs H1 φ h1 x1 o1 => by
    obtain ⟨d, hd, ru⟩ := rule ds Φ φ.1 φ.2
    exact ru (WCs W K vs ds) _ _ evD_c ms B σ H1 (at_cs h1 o1) Q fun w H2 h2 x2 o2 => q (.dat d) w H2 ⟨d, rfl, hd⟩ (of_cs h2) (x1.trans x2) o2)
theorem ji_liftA {F : TA → TI} {op : List PyData → (List PyData → Prop) → Prop} (ha : JA K W r n tA fA) (hF : ∀ σ H Q, (tA σ H fun vs H1 => F (fun _ H Q => Q vs H) σ H1 Q) → F tA σ H Q)
    (rule : ∀ ds Φ, op ds Φ → ∃ es, Φ es ∧ ∀ (W' : Wd) (ta' : TA) (ρ : List Sl), EvD K W' ta' ρ ds → Src K W' (F ta') ρ es) : JI K W r (F tA) (fun env Φ => fA env fun ds => op ds Φ) := fun env Φ h ms B σ H a R q =>
  hF _ _ _ (ha env _ h ms B σ H a _ fun ds vs H1 φ h1 x1 o1 => by
    obtain ⟨es, he, ru⟩ := rule ds Φ φ.2
    exact ru (WCs W K vs ds) _ _ evD_c ms B σ H1 (at_cs h1 o1) R fun J H2 h2 x2 st => q es J H2 he (of_cs h2) (x1.trans x2) st)
theorem ji_lift {F : TE → TI} {op : PyData → (List PyData → Prop) → Prop} (ha : JE K W r ta fa) (hF : ∀ σ H Q, (ta σ H fun v H1 => F (tC v) σ H1 Q) → F ta σ H Q)
    (rule : ∀ x Φ, op x Φ → ∃ es, Φ es ∧ ∀ (W' : Wd) (te' : TE) (ρ : List Sl), Evd K W' te' ρ x → Src K W' (F te') ρ es) : JI K W r (F ta) (fun env Φ => fa env fun x => op x Φ) := fun env Φ h ms B σ H a R q =>
  hF _ _ _ (ha env _ h ms B σ H a _ fun s v H1 φ h1 x1 o1 => by
    obtain ⟨x, rfl, φ⟩ := φ
    obtain ⟨es, he, ru⟩ := rule x Φ φ
    exact ru (WC W K v x) (tC v) _ evd_c ms B σ H1 (at_c h1 o1) R fun J H2 h2 x2 st => q es J H2 he (of_c h2) (x1.trans x2) st)
/-! constants, variables -/
theorem je_cd {c : V} (h : ∀ H, Dp K H c d) : JE K W r (tC c) (fun _ Φ => Φ d) := fun env Φ φ => en_of_ev (ev_cd h) ⟨d, rfl, φ⟩
theorem je_int {i : Int} : JE K W r (tC (.int i)) (fun _ Φ => Φ (.int i)) := je_cd fun _ => .int i
theorem je_str {i : Str} : JE K W r (tC (.str i)) (fun _ Φ => Φ (.str i)) := je_cd fun _ => .str i
theorem je_bl {i : Bool} : JE K W r (tC (.bl i)) (fun _ Φ => Φ (.bool i)) := je_cd fun _ => .bl i
theorem je_non : JE K W r (tC .non) (fun _ Φ => Φ .none) := je_cd fun _ => .non
theorem je_var (i : Nat) : JE K W r (tVar i) (fun env Φ => varK env i Φ) := fun env Φ φ => by
  have φ : varK env i Φ := φ
  unfold varK at φ
  cases e : env[i]? with
  | none => rw [e] at φ; exact False.elim φ
  | some s =>
    rw [e] at φ
    have em : (env.map (low r))[i]? = some (low r s) := by rw [List.getElem?_map, e]; rfl
    cases s with
    | dat d => exact en_of_ev (ev_var em (by intro q; cases q)) ⟨d, rfl, φ⟩
    | own ds => exact en_of_ev (ev_var em (by intro q; cases q)) ⟨.list ds, rfl, φ⟩
    | emp => exact False.elim φ
    | obj a => exact False.elim φ
    | src => exact False.elim φ
/-! operators -/
theorem je_op {rr : R2} {op : PyData → PyData → (PyData → Prop) → Prop} (ha : JE K W r ta fa) (hb : JE K W r tb fb) (ho : ∀ x y Φ, op x y Φ → ∃ d, Φ d ∧ Rs K rr (.dat x) (.dat y) (.dat d)) : JE K W r (tOp rr ta tb) (fun env Φ => fa env fun x => fb env fun y => op x y Φ) := fun env Φ h =>
  fun ms B σ H a Q q => ha env _ h ms B σ H a _ fun s v H1 φ h1 x1 o1 => by
    obtain ⟨x, rfl, φ⟩ := φ
    refine hb env _ φ ms B σ H1 h1 _ fun s w H2 φ2 h2 x2 o2 => ?_
    obtain ⟨y, rfl, φ2⟩ := φ2
    obtain ⟨d, hd, rs⟩ := ho x y Φ φ2
    exact rs ms H2 v w h2.live (dp_mono (x2.cut h1.sub) _ _ o1) o2 Q fun z H3 s3 o3 => q (.dat d) z H3 ⟨d, rfl, hd⟩ (h2.same s3) ((x1.trans x2).trans (.of_same s3)) o3
def iiK (p : Int → Int → PyData) (x y : PyData) (Φ : PyData → Prop) : Prop := match x, y with
  | .int i, .int j => Φ (p i j)
  | _, _ => False
def iiC (C : Int → Int → Prop) (p : Int → Int → PyData) (x y : PyData) (Φ : PyData → Prop) : Prop := match x, y with
  | .int i, .int j => C i j ∧ Φ (p i j)
  | _, _ => False
theorem iiK_of {p : Int → Int → PyData} {Φ : PyData → Prop} (h : iiK p x y Φ) : ∃ i j, x = .int i ∧ y = .int j ∧ Φ (p i j) := by
  cases x <;> cases y <;> first | exact ⟨_, _, rfl, rfl, h⟩ | exact False.elim h
theorem iiC_of {C : Int → Int → Prop} {p : Int → Int → PyData} {Φ : PyData → Prop} (h : iiC C p x y Φ) : ∃ i j, x = .int i ∧ y = .int j ∧ C i j ∧ Φ (p i j) := by
  cases x <;> cases y <;> first | exact ⟨_, _, rfl, rfl, h⟩ | exact False.elim h
theorem je_I0 {gv : Int → Int → V} {p : Int → Int → PyData} (hd : ∀ H i j, Dp K H (gv i j) (p i j)) (ha : JE K W r ta fa) (hb : JE K W r tb fb) : JE K W r (tOp (rI0 gv) ta tb) (fun env Φ => fa env fun x => fb env fun y => iiK p x y Φ) := je_op ha hb fun x y Φ h => by
  obtain ⟨i, j, rfl, rfl, h⟩ := iiK_of h
  exact ⟨_, h, rs_I0 fun _ => hd _ i j⟩
theorem je_I {C : Int → Int → Prop} {gv : Int → Int → V} {p : Int → Int → PyData} (hd : ∀ H i j, Dp K H (gv i j) (p i j)) (ha : JE K W r ta fa) (hb : JE K W r tb fb) : JE K W r (tOp (rI C gv) ta tb) (fun env Φ => fa env fun x => fb env fun y => iiC C p x y Φ) := je_op ha hb fun x y Φ h => by
  obtain ⟨i, j, rfl, rfl, c, h⟩ := iiC_of h
  exact ⟨_, h, rs_I (fun _ => hd _ i j) c⟩
theorem je_add (ha : JE K W r ta fa) (hb : JE K W r tb fb) : JE K W r (tOp (rI0 fun i j => .int (i + j)) ta tb) (fun env Φ => fa env fun x => fb env fun y => iiK (fun i j => .int (i + j)) x y Φ) := je_I0 (fun _ _ _ => .int _) ha hb
theorem je_sub (ha : JE K W r ta fa) (hb : JE K W r tb fb) : JE K W r (tOp (rI0 fun i j => .int (i - j)) ta tb) (fun env Φ => fa env fun x => fb env fun y => iiK (fun i j => .int (i - j)) x y Φ) := je_I0 (fun _ _ _ => .int _) ha hb
theorem je_lt (ha : JE K W r ta fa) (hb : JE K W r tb fb) : JE K W r (tOp (rI0 fun i j => .bl (decide (i < j))) ta tb) (fun env Φ => fa env fun x => fb env fun y => iiK (fun i j => .bool (decide (i < j))) x y Φ) := je_I0 (fun _ _ _ => .bl _) ha hb
theorem je_le (ha : JE K W r ta fa) (hb : JE K W r tb fb) : JE K W r (tOp (rI0 fun i j => .bl (decide (i ≤ j))) ta tb) (fun env Φ => fa env fun x => fb env fun y => iiK (fun i j => .bool (decide (i ≤ j))) x y Φ) := je_I0 (fun _ _ _ => .bl _) ha hb
theorem je_gt (ha : JE K W r ta fa) (hb : JE K W r tb fb) : JE K W r (tOp (rI0 fun i j => .bl (decide (j < i))) ta tb) (fun env Φ => fa env fun x => fb env fun y => iiK (fun i j => .bool (decide (j < i))) x y Φ) := je_I0 (fun _ _ _ => .bl _) ha hb
theorem je_ge (ha : JE K W r ta fa) (hb : JE K W r tb fb) : JE K W r (tOp (rI0 fun i j => .bl (decide (j ≤ i))) ta tb) (fun env Φ => fa env fun x => fb env fun y => iiK (fun i j => .bool (decide (j ≤ i))) x y Φ) := je_I0 (fun _ _ _ => .bl _) ha hb
theorem je_mul (ha : JE K W r ta fa) (hb : JE K W r tb fb) : JE K W r (tOp (rI CMul fun i j => .int (i * j)) ta tb) (fun env Φ => fa env fun x => fb env fun y => iiC CMul (fun i j => .int (i * j)) x y Φ) := je_I (fun _ _ _ => .int _) ha hb
theorem je_mulW (ha : JE K W r ta fa) (hb : JE K W r tb fb) : JE K W r (tOp (rI CMulW fun i j => .int (i * j)) ta tb) (fun env Φ => fa env fun x => fb env fun y => iiC CMulW (fun i j => .int (i * j)) x y Φ) := je_I (fun _ _ _ => .int _) ha hb
theorem je_divW (ha : JE K W r ta fa) (hb : JE K W r tb fb) : JE K W r (tOp (rI CDivW fun i j => .int (i / j)) ta tb) (fun env Φ => fa env fun x => fb env fun y => iiC CDivW (fun i j => .int (i / j)) x y Φ) := je_I (fun _ _ _ => .int _) ha hb
def CMod (_ j : Int) : Prop := 0 < j
theorem je_mod (ha : JE K W r ta fa) (hb : JE K W r tb fb) : JE K W r (tOp (rI (fun _ j => 0 < j) fun i j => .int (i % j)) ta tb) (fun env Φ => fa env fun x => fb env fun y => iiC CMod (fun i j => .int (i % j)) x y Φ) := je_I (C := CMod) (fun _ _ _ => .int _) ha hb
theorem je_pow (ha : JE K W r ta fa) (hb : JE K W r tb fb) : JE K W r (tOp (rI CPow fun i j => .int (i ^ j.toNat)) ta tb) (fun env Φ => fa env fun x => fb env fun y => iiC CPow (fun i j => .int (i ^ j.toNat)) x y Φ) := je_I (fun _ _ _ => .int _) ha hb
def ng (neg b : Bool) : Bool := match neg with
  | true => !b
  | false => b
/-- == of simple things -/
def eqS : PyData → PyData → Option Bool
  | .int i, .int j => some (decide (i = j))
  | .str i, .str j => some (decide (i = j))
  | .bool i, .bool j => some (decide (i = j))
  | .none, .none => some true
  | .none, .int _ => some false | .int _, .none => some false | .none, .str _ => some false | .str _, .none => some false
  | .none, .bool _ => some false | .bool _, .none => some false
  | .int _, .str _ => some false | .str _, .int _ => some false | .bool _, .str _ => some false | .str _, .bool _ => some false
  | _, _ => none
def eqSK (neg : Bool) (x y : PyData) (Φ : PyData → Prop) : Prop := match eqS x y with
  | some b => Φ (.bool (ng neg b))
  | none => False
theorem eqS_ok {b : Bool} {H : Hp} (e : eqS x y = some b) (hx : Dp K H v x) (hy : Dp K H w y) : scal v w = true ∧ decide (v = w) = b := by
  have db : ∀ i j : Bool, decide (V.bl i = V.bl j) = decide (i = j) := fun i j => by cases i <;> cases j <;> rfl
  cases x <;> cases y <;> simp only [eqS, reduceCtorEq, Option.some.injEq] at e <;> cases hx <;> cases hy <;> subst e
  · exact ⟨rfl, by decide⟩
  · exact ⟨rfl, decide_eq_false fun q => by cases q⟩
  · exact ⟨rfl, decide_eq_false fun q => by cases q⟩
  · exact ⟨rfl, decide_eq_false fun q => by cases q⟩
  · exact ⟨rfl, decide_eq_false fun q => by cases q⟩
  · exact ⟨rfl, db _ _⟩
  · exact ⟨rfl, decide_eq_false fun q => by cases q⟩
  · exact ⟨rfl, decide_eq_false fun q => by cases q⟩
  · exact ⟨rfl, Fw.dec_int⟩
  · exact ⟨rfl, decide_eq_false fun q => by cases q⟩
  · exact ⟨rfl, decide_eq_false fun q => by cases q⟩
  · exact ⟨rfl, decide_eq_false fun q => by cases q⟩
  · exact ⟨rfl, decide_eq_false fun q => by cases q⟩
  · exact ⟨rfl, Fw.dec_str⟩
theorem je_eqS (ha : JE K W r ta fa) (hb : JE K W r tb fb) : JE K W r (tOp rEq ta tb) (fun env Φ => fa env fun x => fb env fun y => eqSK false x y Φ) := je_op ha hb fun x y Φ h => by
  unfold eqSK at h
  cases e : eqS x y with
  | none => rw [e] at h; exact False.elim h
  | some b =>
    rw [e] at h
    refine ⟨_, h, fun ms H v w _ hx hy Q q => ?_⟩
    obtain ⟨h1, h2⟩ := eqS_ok e hx hy
    exact ⟨h1, q _ H (Same.refl H) (by rw [h2]; exact .bl _)⟩
theorem je_neS (ha : JE K W r ta fa) (hb : JE K W r tb fb) : JE K W r (tOp rNe ta tb) (fun env Φ => fa env fun x => fb env fun y => eqSK true x y Φ) := je_op ha hb fun x y Φ h => by
  unfold eqSK at h
  cases e : eqS x y with
  | none => rw [e] at h; exact False.elim h
  | some b =>
    rw [e] at h
    refine ⟨_, h, fun ms H v w _ hx hy Q q => ?_⟩
    obtain ⟨h1, h2⟩ := eqS_ok e hx hy
    exact ⟨h1, q _ H (Same.refl H) (by rw [h2]; exact .bl _)⟩
def eqDK (x y : PyData) (Φ : PyData → Prop) : Prop := (SeqAt.shaped x = true ∧ SeqAt.shaped y = true) ∧ Φ (.bool (PyData.eqv x y))
def neDK (x y : PyData) (Φ : PyData → Prop) : Prop := (SeqAt.shaped x = true ∧ SeqAt.shaped y = true) ∧ Φ (.bool (!PyData.eqv x y))
theorem je_eqD (ha : JE K W r ta fa) (hb : JE K W r tb fb) : JE K W r (tOp (rEqD K) ta tb) (fun env Φ => fa env fun x => fb env fun y => eqDK x y Φ) := je_op ha hb fun x y Φ h => ⟨_, h.2, fun ms H v w _ hx hy Q q => ⟨x, y, dp_mono cut_le _ _ hx, dp_mono cut_le _ _ hy, h.1.1, h.1.2, q _ H (Same.refl H) (.bl _)⟩⟩
theorem je_neD (ha : JE K W r ta fa) (hb : JE K W r tb fb) : JE K W r (tOp (rNeD K) ta tb) (fun env Φ => fa env fun x => fb env fun y => neDK x y Φ) := je_op ha hb fun x y Φ h => ⟨_, h.2, fun ms H v w _ hx hy Q q => ⟨x, y, dp_mono cut_le _ _ hx, dp_mono cut_le _ _ hy, h.1.1, h.1.2, q _ H (Same.refl H) (.bl _)⟩⟩
def atK (ds : List PyData) (i : Int) (Φ : PyData → Prop) : Prop := match atI ds i with
  | some d => Φ d
  | none => False
theorem atK_of {ds : List PyData} {i : Int} {d : PyData} {Φ : PyData → Prop} (e : atI ds i = some d) (h : Φ d) : atK ds i Φ := by unfold atK; rw [e]; exact h
theorem of_atK {ds : List PyData} {i : Int} {Φ : PyData → Prop} (h : atK ds i Φ) : ∃ d, atI ds i = some d ∧ Φ d := by
  unfold atK at h
  split at h
  · exact ⟨_, by assumption, h⟩
  · exact False.elim h
def ixLK (x y : PyData) (Φ : PyData → Prop) : Prop := lstK x fun ds => intK y fun i => atK ds i Φ
def ixTK (x y : PyData) (Φ : PyData → Prop) : Prop := tupK x fun ds => intK y fun i => atK ds i Φ
theorem je_ixL (ha : JE K W r ta fa) (hb : JE K W r tb fb) : JE K W r (tOp (rIxL K) ta tb) (fun env Φ => fa env fun x => fb env fun y => ixLK x y Φ) := je_op ha hb fun x y Φ h => by
  obtain ⟨ds, rfl, h1⟩ := lstK_of h
  obtain ⟨i, rfl, h2⟩ := intK_of h1
  obtain ⟨d, e, h3⟩ := of_atK h2
  exact ⟨d, h3, rs_ixL e⟩
theorem je_ixT (ha : JE K W r ta fa) (hb : JE K W r tb fb) : JE K W r (tOp (rIxT K) ta tb) (fun env Φ => fa env fun x => fb env fun y => ixTK x y Φ) := je_op ha hb fun x y Φ h => by
  obtain ⟨ds, rfl, h1⟩ := tupK_of h
  obtain ⟨i, rfl, h2⟩ := intK_of h1
  obtain ⟨d, e, h3⟩ := of_atK h2
  exact ⟨d, h3, rs_ixT e⟩
def catLK (x y : PyData) (Φ : PyData → Prop) : Prop := lstK x fun ds => lstK y fun es => ds.length + es.length ≤ 100000 ∧ Φ (.list (ds ++ es))
def catTK (x y : PyData) (Φ : PyData → Prop) : Prop := tupK x fun ds => tupK y fun es => ds.length + es.length ≤ 100000 ∧ Φ (.tuple (ds ++ es))
theorem je_catL (ha : JE K W r ta fa) (hb : JE K W r tb fb) : JE K W r (tOp (rCatD K) ta tb) (fun env Φ => fa env fun x => fb env fun y => catLK x y Φ) := je_lift2 (F := fun a b => tOp (rCatD K) a b) ha hb (fun σ H Q h => h) fun x y Φ h => by
  obtain ⟨ds, rfl, h2⟩ := lstK_of h
  obtain ⟨es, rfl, hz, h⟩ := lstK_of h2
  exact ⟨_, h, fun W' a b ρ e1 e2 => ev_cat e1 e2 hz⟩
theorem je_catT (ha : JE K W r ta fa) (hb : JE K W r tb fb) : JE K W r (tOp (rCatA K) ta tb) (fun env Φ => fa env fun x => fb env fun y => catTK x y Φ) := je_op ha hb fun x y Φ h => by
  obtain ⟨ds, rfl, h2⟩ := tupK_of h
  obtain ⟨es, rfl, hz, h⟩ := tupK_of h2
  exact ⟨_, h, rs_catT hz⟩
/-- (x, ..) * n, tuples of one -/
def repTK (x y : PyData) (Φ : PyData → Prop) : Prop := tupK x fun ds => intK y fun n => oneK ds fun d => (0 ≤ n ∧ n ≤ 1000) ∧ Φ (.tuple (List.replicate n.toNat d))
theorem je_repT (ha : JE K W r ta fa) (hb : JE K W r tb fb) : JE K W r (tOp (rRepA K) ta tb) (fun env Φ => fa env fun x => fb env fun y => repTK x y Φ) := je_lift2 (F := fun a b => tOp (rRepA K) a b) ha hb (fun σ H Q h => h) fun x y Φ h => by
  obtain ⟨ds, rfl, h⟩ := tupK_of h
  obtain ⟨n, rfl, h⟩ := intK_of h
  obtain ⟨d, rfl, hn, h⟩ := oneK_of h
  exact ⟨_, h, fun W' a b ρ e1 e2 => ev_repT e1 (evd_eq e2 (by congr 1; omega)) (by omega)⟩
def negK (x : PyData) (Φ : PyData → Prop) : Prop := intK x fun i => Φ (.int (-i))
theorem je_neg (ha : JE K W r ta fa) : JE K W r (tUn (rU fun i => .int (-i)) ta) (fun env Φ => fa env fun x => negK x Φ) := je_lift (F := fun a => tUn (rU fun i => .int (-i)) a) ha (fun σ H Q h => h) fun x Φ h => by
  obtain ⟨n, rfl, h⟩ := intK_of h
  exact ⟨_, h, fun W' a ρ e => ev_neg e⟩
def isNoK (neg : Bool) (x : PyData) (Φ : PyData → Prop) : Prop := Φ (.bool (ng neg (isNo x)))
theorem je_isNo (ha : JE K W r ta fa) : JE K W r (tOp rIsNo ta (tC .non)) (fun env Φ => fa env fun x => isNoK false x Φ) := je_lift (F := fun a => tOp rIsNo a (tC .non)) ha (fun σ H Q h => h) fun x Φ h => ⟨_, h, fun W' a ρ e => ev_isNo e⟩
theorem je_notNo (ha : JE K W r ta fa) : JE K W r (tOp rNotNo ta (tC .non)) (fun env Φ => fa env fun x => isNoK true x Φ) := je_lift (F := fun a => tOp rNotNo a (tC .non)) ha (fun σ H Q h => h) fun x Φ h => ⟨_, h, fun W' a ρ e => ev_notNo e⟩
def isBK (neg : Bool) (x y : PyData) (Φ : PyData → Prop) : Prop := blK x fun a => blK y fun b => Φ (.bool (ng neg (decide (a = b))))
theorem je_notB (ha : JE K W r ta fa) (hb : JE K W r tb fb) : JE K W r (tOp rNotB ta tb) (fun env Φ => fa env fun x => fb env fun y => isBK true x y Φ) := je_lift2 (F := fun a b => tOp rNotB a b) ha hb (fun σ H Q h => h) fun x y Φ h => by
  obtain ⟨a, rfl, h2⟩ := blK_of h
  obtain ⟨b, rfl, h⟩ := blK_of h2
  exact ⟨_, h, fun W' a b ρ e1 e2 => ev_notB e1 e2⟩
theorem je_isB (ha : JE K W r ta fa) (hb : JE K W r tb fb) : JE K W r (tOp rIsB ta tb) (fun env Φ => fa env fun x => fb env fun y => isBK false x y Φ) := je_op ha hb fun x y Φ h => by
  obtain ⟨a, rfl, h2⟩ := blK_of h
  obtain ⟨b, rfl, h⟩ := blK_of h2
  refine ⟨_, h, fun ms H v w _ hx hy Q q => ?_⟩
  cases hx; cases hy
  exact ⟨a, b, rfl, rfl, q _ H (Same.refl H) (.bl _)⟩
/-! arguments, displays -/
theorem ja_nil : JA K W r 0 tNil (fun _ Φ => Φ []) := fun env Φ h => end_of ed_nil ⟨rfl, h⟩
theorem ja_cons (ha : JE K W r ta fa) (hb : JA K W r n tA fA) : JA K W r (n + 1) (tCons ta tA) (fun env Φ => fa env fun d => fA env fun ds => Φ (d :: ds)) := fun env Φ h ms B σ H a Q q =>
  ha env _ h ms B σ H a _ fun s v H1 φ h1 x1 o1 => by
    obtain ⟨x, rfl, φ⟩ := φ
    exact hb env _ φ ms B σ H1 h1 _ fun ds vs H2 ψ h2 x2 o2 => q (x :: ds) _ H2 ⟨by rw [List.length_cons, ψ.1], ψ.2⟩ h2 (x1.trans x2) (.cons (dp_mono (x2.cut h1.sub) _ _ o1) o2)
theorem je_tup (h : JA K W r n tA fA) (hn : n ≤ 100000 := by decide) : JE K W r (tTup tA) (fun env Φ => fA env fun ds => Φ (.tuple ds)) := fun env Φ φ => (en_tup (h env _ φ) fun ds q => by rw [q.1]; exact hn).imp fun s ⟨d, e, ds, e2, q⟩ => ⟨d, e, by rw [e2]; exact q.2⟩
theorem je_lst (h : JA K W r n tA fA) (hn : n ≤ 100000 := by decide) : JE K W r (tLst tA) (fun env Φ => fA env fun ds => Φ (.list ds)) := fun env Φ φ => (en_lst (h env _ φ) fun ds q => by rw [q.1]; exact hn).imp fun s ⟨d, e, ds, e2, q⟩ => ⟨d, e, by rw [e2]; exact q.2⟩
/-! tests -/
theorem jt_test (h : JE K W r te f) : JT K W r (tTest te) (fun env Φ => f env fun d => blK d Φ) := fun env Φ φ ms B σ H a Q q => h env _ φ ms B σ H a _ fun s v H1 ψ h1 x1 o1 => by
  obtain ⟨d, rfl, ψ⟩ := ψ
  obtain ⟨b, rfl, ψ⟩ := blK_of ψ
  cases o1
  exact ⟨b, rfl, q b H1 ψ h1 x1⟩
theorem jt_B (h : JE K W r te f) : JT K W r (tB te) (fun env Φ => f env fun d => blK d Φ) := fun env Φ φ ms B σ H a Q q => h env _ φ ms B σ H a _ fun s v H1 ψ h1 x1 o1 => by
  obtain ⟨d, rfl, ψ⟩ := ψ
  obtain ⟨b, rfl, ψ⟩ := blK_of ψ
  cases o1
  exact ⟨b, rfl, q b H1 ψ h1 x1⟩
theorem jt_not (h : JT K W r t ft) : JT K W r (tNot t) (fun env Φ => ft env fun b => Φ (!b)) := fun env Φ φ ms B σ H a Q q => h env _ φ ms B σ H a _ fun b H1 ψ h1 x1 => q _ H1 ψ h1 x1
theorem jt_and (h : JT K W r t ft) (h2 : JT K W r u fu) : JT K W r (tAnd t u) (fun env Φ => ft env fun b => ifK b (fu env Φ) (Φ false)) := fun env Φ φ ms B σ H a Q q => h env _ φ ms B σ H a _ fun b H1 ψ h1 x1 => by
  cases b with
  | true => exact iteT (h2 env _ ψ ms B σ H1 h1 _ fun b H2 ψ h2 x2 => q b H2 ψ h2 (x1.trans x2))
  | false => exact iteF (q false H1 ψ h1 x1)
theorem jt_or (h : JT K W r t ft) (h2 : JT K W r u fu) : JT K W r (tOr t u) (fun env Φ => ft env fun b => ifK b (Φ true) (fu env Φ)) := fun env Φ φ ms B σ H a Q q => h env _ φ ms B σ H a _ fun b H1 ψ h1 x1 => by
  cases b with
  | true => exact iteT (q true H1 ψ h1 x1)
  | false => exact iteF (h2 env _ ψ ms B σ H1 h1 _ fun b H2 ψ h2 x2 => q b H2 ψ h2 (x1.trans x2))
theorem jt_yes : JT K W r tYes (fun _ Φ => Φ true) := fun env Φ φ ms B σ H a Q q => q true H φ a (.refl H)
/-- a ≤ b ≤ c -/
theorem je_chain {p p' : Int → Int → Bool} (ha : JE K W r ta fa) (hb : JE K W r tb fb) (hc : JE K W r tc fc) : JE K W r (tChain (rI0 fun i j => .bl (p i j)) (rI0 fun i j => .bl (p' i j)) ta tb tc) (fun env Φ => fa env fun x => fb env fun y => intK x fun i => intK y fun j => ifK (p i j) (fc env fun z => intK z fun k => Φ (.bool (p' j k))) (Φ (.bool false))) := fun env Φ φ ms B σ H a Q q =>
  ha env _ φ ms B σ H a _ fun s v H1 φ1 h1 x1 o1 => by
    obtain ⟨x, rfl, φ1⟩ := φ1
    refine hb env _ φ1 ms B σ H1 h1 _ fun s w H2 φ2 h2 x2 o2 => ?_
    obtain ⟨y, rfl, φ2⟩ := φ2
    obtain ⟨i, rfl, φ3⟩ := intK_of φ2
    obtain ⟨j, rfl, φ4⟩ := intK_of φ3
    cases o1; cases o2
    refine ⟨i, j, rfl, rfl, _, rfl, ?_⟩
    cases e : p i j with
    | true =>
      rw [e] at φ4
      refine iteT (hc env _ φ4 ms B σ H2 h2 _ fun s u H3 φ3 h3 x3 o3 => ?_)
      obtain ⟨z, rfl, φ3⟩ := φ3
      obtain ⟨k, rfl, φ3⟩ := intK_of φ3
      cases o3
      exact ⟨j, k, rfl, rfl, q (.dat (.bool (p' j k))) _ H3 ⟨_, rfl, φ3⟩ h3 ((x1.trans x2).trans x3) (.bl _)⟩
    | false =>
      rw [e] at φ4
      exact iteF (q (.dat (.bool false)) _ H2 ⟨_, rfl, φ4⟩ h2 (x1.trans x2) (.bl _))
theorem je_andV (ha : JE K W r ta fa) (hb : JE K W r tb fb) : JE K W r (tAndV ta tb) (fun env Φ => fa env fun x => blK x fun b => ifK b (fb env Φ) (Φ (.bool false))) := fun env Φ φ ms B σ H a Q q => ha env _ φ ms B σ H a _ fun s v H1 ψ h1 x1 o1 => by
  obtain ⟨d, rfl, ψ⟩ := ψ
  obtain ⟨b, rfl, ψ⟩ := blK_of ψ
  cases o1
  refine ⟨b, rfl, ?_⟩
  cases b with
  | true => exact iteT (hb env _ ψ ms B σ H1 h1 Q fun s v H2 φ g2 x2 o2 => q s v H2 φ g2 (x1.trans x2) o2)
  | false => exact iteF (q (.dat (.bool false)) _ H1 ⟨_, rfl, ψ⟩ h1 x1 (.bl _))
theorem je_orV (ha : JE K W r ta fa) (hb : JE K W r tb fb) : JE K W r (tOrV ta tb) (fun env Φ => fa env fun x => blK x fun b => ifK b (Φ (.bool true)) (fb env Φ)) := fun env Φ φ ms B σ H a Q q => ha env _ φ ms B σ H a _ fun s v H1 ψ h1 x1 o1 => by
  obtain ⟨d, rfl, ψ⟩ := ψ
  obtain ⟨b, rfl, ψ⟩ := blK_of ψ
  cases o1
  refine ⟨b, rfl, ?_⟩
  cases b with
  | true => exact iteT (q (.dat (.bool true)) _ H1 ⟨_, rfl, ψ⟩ h1 x1 (.bl _))
  | false => exact iteF (hb env _ ψ ms B σ H1 h1 Q fun s v H2 φ g2 x2 o2 => q s v H2 φ g2 (x1.trans x2) o2)
theorem je_notV (ha : JE K W r ta fa) : JE K W r (tNotV ta) (fun env Φ => fa env fun x => blK x fun b => Φ (.bool (!b))) := fun env Φ φ ms B σ H a Q q => ha env _ φ ms B σ H a _ fun s v H1 ψ h1 x1 o1 => by
  obtain ⟨d, rfl, ψ⟩ := ψ
  obtain ⟨b, rfl, ψ⟩ := blK_of ψ
  cases o1
  exact ⟨b, rfl, q (.dat (.bool (!b))) _ H1 ⟨_, rfl, ψ⟩ h1 x1 (.bl _)⟩
theorem je_if (h : JT K W r t ft) (ha : JE K W r ta fa) (hb : JE K W r tb fb) : JE K W r (tIf t ta tb) (fun env Φ => ft env fun b => ifK b (fa env Φ) (fb env Φ)) := fun env Φ φ ms B σ H a Q q => h env _ φ ms B σ H a _ fun b H1 ψ h1 x1 => by
  cases b with
  | true => exact iteT (ha env _ ψ ms B σ H1 h1 Q fun s v H2 φ g2 x2 o2 => q s v H2 φ g2 (x1.trans x2) o2)
  | false => exact iteF (hb env _ ψ ms B σ H1 h1 Q fun s v H2 φ g2 x2 o2 => q s v H2 φ g2 (x1.trans x2) o2)
/-! built-ins -/
def lenK (ds : List PyData) (Φ : PyData → Prop) : Prop := oneK ds fun d => seqK d fun es => Φ (.int es.length)
theorem je_len (h : JA K W r 1 tA fA) : JE K W r (tCB (rLenQ K) tA) (fun env Φ => fA env fun ds => lenK ds Φ) := je_liftA (F := fun a => tCB (rLenQ K) a) h (fun σ H Q h => h) fun ds Φ _ h => by
  obtain ⟨d, rfl, h⟩ := oneK_of h
  cases d with
  | list es => exact ⟨_, h, fun W' a ρ e => ev_cb e (rc1 fun ms H v l o Q q => by
        cases o with
        | lst hs ha => exact ⟨_, _, rfl, .inl (sql_mono cut_le hs), by rw [dpa_len ha]; exact q _ H (Same.refl H) (.int _)⟩)⟩
  | tuple es => exact ⟨_, h, fun W' a ρ e => ev_cb e (rc1 fun ms H v l o Q q => by
        cases o with
        | tup hs ha => exact ⟨_, _, rfl, .inr (sqt_mono cut_le hs), by rw [dpa_len ha]; exact q _ H (Same.refl H) (.int _)⟩)⟩
  | _ => exact False.elim h
def toIntK (ds : List PyData) (Φ : PyData → Prop) : Prop := oneK ds fun d => match d with
  | .int i => Φ (.int i)
  | .bool b => Φ (.int (if b then 1 else 0))
  | _ => False
theorem je_toInt (h : JA K W r 1 tA fA) : JE K W r (tCB rInt1 tA) (fun env Φ => fA env fun ds => toIntK ds Φ) := je_liftA (F := fun a => tCB rInt1 a) h (fun σ H Q h => h) fun ds Φ _ h => by
  obtain ⟨d, rfl, h⟩ := oneK_of h
  cases d with
  | int i => exact ⟨_, h, fun W' a ρ e => ev_cb e (rc1 fun ms H v l o Q q => by cases o; exact .inl ⟨_, rfl, q _ H (Same.refl H) (.int _)⟩)⟩
  | bool b => exact ⟨_, h, fun W' a ρ e => ev_cb e (rc1 fun ms H v l o Q q => by cases o; exact .inr ⟨_, rfl, q _ H (Same.refl H) (.int _)⟩)⟩
  | _ => exact False.elim h
def absK (ds : List PyData) (Φ : PyData → Prop) : Prop := oneK ds fun d => intK d fun i => Φ (.int (if i < 0 then -i else i))
theorem je_abs (h : JA K W r 1 tA fA) : JE K W r (tCB rAbs1 tA) (fun env Φ => fA env fun ds => absK ds Φ) := je_liftA (F := fun a => tCB rAbs1 a) h (fun σ H Q h => h) fun ds Φ _ h => by
  obtain ⟨d, rfl, h⟩ := oneK_of h
  obtain ⟨i, rfl, h⟩ := intK_of h
  exact ⟨_, h, fun W' a ρ e => ev_cb e (rc1 fun ms H v l o Q q => by cases o; exact ⟨_, rfl, q _ H (Same.refl H) (.int _)⟩)⟩
def min2K (ds : List PyData) (Φ : PyData → Prop) : Prop := twoK ds fun d e => intK d fun i => intK e fun j => Φ (.int (if j < i then j else i))
theorem je_min2 (h : JA K W r 2 tA fA) : JE K W r (tCB rMin2 tA) (fun env Φ => fA env fun ds => min2K ds Φ) := je_liftA (F := fun a => tCB rMin2 a) h (fun σ H Q h => h) fun ds Φ _ h => by
  obtain ⟨d, e, rfl, h⟩ := twoK_of h
  obtain ⟨i, rfl, h⟩ := intK_of h
  obtain ⟨j, rfl, h⟩ := intK_of h
  exact ⟨_, h, fun W' a ρ e => ev_cb e (rc2 fun ms H v w l o o' Q q => by cases o; cases o'; exact ⟨_, _, rfl, q _ H (Same.refl H) (.int _)⟩)⟩
def max2K (ds : List PyData) (Φ : PyData → Prop) : Prop := twoK ds fun d e => intK d fun i => intK e fun j => Φ (.int (if j > i then j else i))
theorem je_max2 (h : JA K W r 2 tA fA) : JE K W r (tCB rMax2 tA) (fun env Φ => fA env fun ds => max2K ds Φ) := je_liftA (F := fun a => tCB rMax2 a) h (fun σ H Q h => h) fun ds Φ _ h => by
  obtain ⟨d, e, rfl, h⟩ := twoK_of h
  obtain ⟨i, rfl, h⟩ := intK_of h
  obtain ⟨j, rfl, h⟩ := intK_of h
  exact ⟨_, h, fun W' a ρ e => ev_cb e (rc2 fun ms H v w l o o' Q q => by cases o; cases o'; exact ⟨_, _, rfl, q _ H (Same.refl H) (.int _)⟩)⟩
def sumK (ds : List PyData) (Φ : PyData → Prop) : Prop := ∃ ns : List Int, ds = [.list (ns.map .int)] ∧ Φ (.int ns.sum)
theorem je_sum (h : JA K W r 1 tA fA) : JE K W r (tCB (rSum K) tA) (fun env Φ => fA env fun ds => sumK ds Φ) := je_liftA (F := fun a => tCB (rSum K) a) h (fun σ H Q h => h) fun ds Φ _ h => by
  obtain ⟨ns, rfl, h⟩ := h
  exact ⟨_, h, fun W' a ρ e => ev_cb e (rc1 fun ms H v l o Q q => by
    cases o with
    | lst hs ha =>
      rw [dpa_ints ha] at hs
      exact ⟨_, ns, rfl, sql_mono cut_le hs, q _ H (Same.refl H) (.int _)⟩)⟩
def maxK (ds : List PyData) (Φ : PyData → Prop) : Prop := ∃ (ns : List Int) (m : Int), ds = [.list (ns.map .int)] ∧ m ∈ ns ∧ (∀ y ∈ ns, y ≤ m) ∧ Φ (.int m)
theorem je_max (h : JA K W r 1 tA fA) : JE K W r (tCB (rMax K) tA) (fun env Φ => fA env fun ds => maxK ds Φ) := je_liftA (F := fun a => tCB (rMax K) a) h (fun σ H Q h => h) fun ds Φ _ h => by
  obtain ⟨ns, m, rfl, hm, hb, h⟩ := h
  exact ⟨_, h, fun W' a ρ e => ev_cb e (rc1 fun ms H v l o Q q => by
    cases o with
    | lst hs ha =>
      rw [dpa_ints ha] at hs
      refine ⟨_, ns, rfl, sql_mono cut_le hs, List.length_pos_of_mem hm, fun m' h1 h2 => ?_⟩
      have e : m' = m := Int.le_antisymm (hb _ h1) (h2 _ hm)
      rw [e]
      exact q _ H (Same.refl H) (.int _))⟩
def minK (ds : List PyData) (Φ : PyData → Prop) : Prop := ∃ (ns : List Int) (m : Int), ds = [.list (ns.map .int)] ∧ m ∈ ns ∧ (∀ y ∈ ns, m ≤ y) ∧ Φ (.int m)
theorem je_min (h : JA K W r 1 tA fA) : JE K W r (tCB (rMin K) tA) (fun env Φ => fA env fun ds => minK ds Φ) := je_liftA (F := fun a => tCB (rMin K) a) h (fun σ H Q h => h) fun ds Φ _ h => by
  obtain ⟨ns, m, rfl, hm, hb, h⟩ := h
  exact ⟨_, h, fun W' a ρ e => ev_cb e (rc1 fun ms H v l o Q q => by
    cases o with
    | lst hs ha =>
      rw [dpa_ints ha] at hs
      refine ⟨_, ns, rfl, sql_mono cut_le hs, List.length_pos_of_mem hm, fun m' h1 h2 => ?_⟩
      have e : m' = m := Int.le_antisymm (h2 _ hm) (hb _ h1)
      rw [e]
      exact q _ H (Same.refl H) (.int _))⟩
def allK (ds : List PyData) (Φ : PyData → Prop) : Prop := ∃ bs : List Bool, ds = [.list (bs.map .bool)] ∧ Φ (.bool (bs.all id))
theorem je_all (h : JA K W r 1 tA fA) : JE K W r (tCB (rAll K) tA) (fun env Φ => fA env fun ds => allK ds Φ) := je_liftA (F := fun a => tCB (rAll K) a) h (fun σ H Q h => h) fun ds Φ _ h => by
  obtain ⟨bs, rfl, h⟩ := h
  exact ⟨_, h, fun W' a ρ e => ev_cb e (rc1 fun ms H v l o Q q => by
    cases o with
    | lst hs ha =>
      rw [dpa_bools ha] at hs
      exact ⟨_, bs, rfl, sql_mono cut_le hs, q _ H (Same.refl H) (.bl _)⟩)⟩
def anyK (ds : List PyData) (Φ : PyData → Prop) : Prop := ∃ bs : List Bool, ds = [.list (bs.map .bool)] ∧ Φ (.bool (bs.any id))
theorem je_any (h : JA K W r 1 tA fA) : JE K W r (tCB (rAny K) tA) (fun env Φ => fA env fun ds => anyK ds Φ) := je_liftA (F := fun a => tCB (rAny K) a) h (fun σ H Q h => h) fun ds Φ _ h => by
  obtain ⟨bs, rfl, h⟩ := h
  exact ⟨_, h, fun W' a ρ e => ev_cb e (rc1 fun ms H v l o Q q => by
    cases o with
    | lst hs ha =>
      rw [dpa_bools ha] at hs
      exact ⟨_, bs, rfl, sql_mono cut_le hs, q _ H (Same.refl H) (.bl _)⟩)⟩
def tupOfK (ds : List PyData) (Φ : PyData → Prop) : Prop := oneK ds fun d => seqK d fun es => Φ (.tuple es)
theorem je_tupOf (h : JA K W r 1 tA fA) : JE K W r (tCB (rTupOf K) tA) (fun env Φ => fA env fun ds => tupOfK ds Φ) := je_liftA (F := fun a => tCB (rTupOf K) a) h (fun σ H Q h => h) fun ds Φ _ h => by
  obtain ⟨d, rfl, h⟩ := oneK_of h
  cases d with
  | list es => exact ⟨_, h, fun W' a ρ e => ev_cb e (rc1 fun ms H v l o Q q => by
        cases o with
        | lst hs ha => exact ⟨_, _, rfl, .inl ⟨sql_mono cut_le hs, fun p hp => q _ _ (same_put hp) (Sl.new_tup l hp ha)⟩⟩)⟩
  | tuple es => exact ⟨_, h, fun W' a ρ e => ev_cb e (rc1 fun ms H v l o Q q => by
        cases o with
        | tup hs ha => exact ⟨_, _, rfl, .inr ⟨sqt_mono cut_le hs, q _ H (Same.refl H) (.tup hs ha)⟩⟩)⟩
  | _ => exact False.elim h
def lstOfK (ds : List PyData) (Φ : PyData → Prop) : Prop := oneK ds fun d => seqK d fun es => Φ (.list es)
theorem je_lstOf (h : JA K W r 1 tA fA) : JE K W r (tCB (rLstOf K) tA) (fun env Φ => fA env fun ds => lstOfK ds Φ) := je_liftA (F := fun a => tCB (rLstOf K) a) h (fun σ H Q h => h) fun ds Φ _ h => by
  obtain ⟨d, rfl, h⟩ := oneK_of h
  cases d with
  | list es => exact ⟨_, h, fun W' a ρ e => ev_cb e (rc1 fun ms H v l o Q q => by
        cases o with
        | lst hs ha => exact ⟨_, _, rfl, .inl (sql_mono cut_le hs), fun p hp => q _ _ (same_put hp) (Sl.new_lst l hp ha)⟩)⟩
  | tuple es => exact ⟨_, h, fun W' a ρ e => ev_cb e (rc1 fun ms H v l o Q q => by
        cases o with
        | tup hs ha => exact ⟨_, _, rfl, .inr (sqt_mono cut_le hs), fun p hp => q _ _ (same_put hp) (Sl.new_lst l hp ha)⟩)⟩
  | _ => exact False.elim h
/-! isinstance -/
def pInt : PyData → Bool
  | .int _ => true
  | .bool _ => true
  | _ => false
def pBool : PyData → Bool
  | .bool _ => true
  | _ => false
def pStr : PyData → Bool
  | .str _ => true
  | _ => false
def pTup : PyData → Bool
  | .tuple _ => true
  | _ => false
def pList : PyData → Bool
  | .list _ => true
  | _ => false
theorem je_isi {T : String} {p : PyData → Bool} (hp : ∀ d, kitB (tyName d) T = some (p d)) (ha : JE K W r ta fa) : JE K W r (tCB (rIsi K) (tCons ta (tCons (tC (.ty T)) tNil))) (fun env Φ => fa env fun d => Φ (.bool (p d))) := je_lift (F := fun a => tCB (rIsi K) (tCons a (tCons (tC (.ty T)) tNil))) (op := fun d Φ => Φ (.bool (p d))) ha (fun σ H Q h => h) fun x Φ h => ⟨_, h, fun W' a ρ e => ev_isi e (hp x)⟩
theorem je_isInt (ha : JE K W r ta fa) : JE K W r (tCB (rIsi K) (tCons ta (tCons (tC (.ty "int")) tNil))) (fun env Φ => fa env fun d => Φ (.bool (pInt d))) := je_isi (fun d => by cases d <;> simp only [tyName, pInt, pBool, pStr, pTup, pList] <;> decide +kernel) ha
theorem je_isBool (ha : JE K W r ta fa) : JE K W r (tCB (rIsi K) (tCons ta (tCons (tC (.ty "bool")) tNil))) (fun env Φ => fa env fun d => Φ (.bool (pBool d))) := je_isi (fun d => by cases d <;> simp only [tyName, pInt, pBool, pStr, pTup, pList] <;> decide +kernel) ha
theorem je_isStr (ha : JE K W r ta fa) : JE K W r (tCB (rIsi K) (tCons ta (tCons (tC (.ty "str")) tNil))) (fun env Φ => fa env fun d => Φ (.bool (pStr d))) := je_isi (fun d => by cases d <;> simp only [tyName, pInt, pBool, pStr, pTup, pList] <;> decide +kernel) ha
theorem je_isTup (ha : JE K W r ta fa) : JE K W r (tCB (rIsi K) (tCons ta (tCons (tC (.ty "tuple")) tNil))) (fun env Φ => fa env fun d => Φ (.bool (pTup d))) := je_isi (fun d => by cases d <;> simp only [tyName, pInt, pBool, pStr, pTup, pList] <;> decide +kernel) ha
theorem je_isList (ha : JE K W r ta fa) : JE K W r (tCB (rIsi K) (tCons ta (tCons (tC (.ty "list")) tNil))) (fun env Φ => fa env fun d => Φ (.bool (pList d))) := je_isi (fun d => by cases d <;> simp only [tyName, pInt, pBool, pStr, pTup, pList] <;> decide +kernel) ha
/-! calls -/
variable {E : XK} {Es : St → XK}
theorem je_callP {G : List PyData → PyData → Prop} (ha : JA K W r n tA fA) : JE K W r (tCall (spP K G) [] E tA) (fun env Φ => fA env fun ds => ∃ d, G ds d ∧ Φ d) := je_liftA (F := fun a => tCall (spP K G) [] E a) (op := fun ds Φ => ∃ d, G ds d ∧ Φ d) ha (fun σ H Q h => h) fun ds Φ _ h => by
  obtain ⟨d, g, h⟩ := h
  exact ⟨d, h, fun W' a ρ e => ev_call e g⟩
theorem je_callX {O : List PyData → Sc.Out → Prop} (ha : JA K W r n tA fA) : JE K W r (tCall (Sc.spX K O) [] E tA) (fun env Φ => fA env fun ds => ∃ d, O ds (.ok d) ∧ Φ d) := je_liftA (F := fun a => tCall (Sc.spX K O) [] E a) (op := fun ds Φ => ∃ d, O ds (.ok d) ∧ Φ d) ha (fun σ H Q h => h) fun ds Φ _ h => by
  obtain ⟨d, g, h⟩ := h
  exact ⟨d, h, fun W' a ρ e => Sc.ev_callX e g⟩
/-- .. which surely ends well, in a def that may raise -/
theorem je_callSX {O : List PyData → Sc.Out → Prop} (ha : JA K W r n tA fA) : JE K W r (tCallS (Sc.spX K O) Es tA) (fun env Φ => fA env fun ds => ∃ d, O ds (.ok d) ∧ Φ d) := je_liftA (F := fun a => tCallS (Sc.spX K O) Es a) (op := fun ds Φ => ∃ d, O ds (.ok d) ∧ Φ d) ha (fun σ H Q h => h) fun ds Φ _ h => by
  obtain ⟨d, g, h⟩ := h
  exact ⟨d, h, fun W' a ρ e ms B σ H g2 Q q => e ms B σ H g2 _ fun vs H1 h1 x1 o1 => ⟨ms, ds, .ok d, h1.live, o1, g, fun d' e v H2 s2 o2 => by cases e; exact q v H2 (h1.same s2) (x1.trans (.of_same s2)) o2, fun c e => (nomatch e), fun c f d e => (nomatch e)⟩⟩
/-- .. that draws -/
theorem je_callU {α : Type} {U : α → Wd} {rt : α → Addr} {A : α} {Pre : List PyData → Prop} {Φ0 : List PyData → PyData → Prop} (i : Nat) (ha : JA K (U A) (rt A) n tA fA) : JE K (U A) (rt A) (tCall (spU K U rt Pre Φ0) [] E (tCons (tVar i) tA)) (fun env Φ => srcK env i (fA env fun ds => Pre ds ∧ ∀ d, Φ0 ds d → Φ d)) := fun env Φ φ => by
  have φ : srcK env i (fA env fun ds => Pre ds ∧ ∀ d, Φ0 ds d → Φ d) := φ
  unfold srcK at φ
  cases e : env[i]? with
  | none => rw [e] at φ; exact False.elim φ
  | some s =>
    rw [e] at φ
    cases s with
    | src =>
      have em : (env.map (low (rt A)))[i]? = some (.raw (.ref (rt A))) := by rw [List.getElem?_map, e]; rfl
      exact (en_callU em (ha env _ φ) fun ds q => q.2.1).imp fun s ⟨d, e, ds, q, z⟩ => ⟨d, e, q.2.2 d z⟩
    | dat d => exact False.elim φ
    | own ds => exact False.elim φ
    | obj a => exact False.elim φ
    | emp => exact False.elim φ
end
end Wp

/-! Wp, 3: targets, walks, comprehensions, new lists. -/
namespace Wp
open PySem L2 Fw
open RZ (ItzT iZipA)
/-! ### targets -/
abbrev FG := PyData → (List (Nat × PyData) → Prop) → Prop
abbrev FGs := List PyData → (List (Nat × PyData) → Prop) → Prop
def setV : List Va → List (Nat × PyData) → List Va
  | env, [] => env
  | env, (j, d) :: ps => setV (env.set j (.dat d)) ps
def setS : List Sl → List (Nat × PyData) → List Sl
  | ρ, [] => ρ
  | ρ, (j, d) :: ps => setS (ρ.set j (.dat d)) ps
theorem setS_app : ∀ (ps qs : List (Nat × PyData)) (ρ : List Sl), setS ρ (ps ++ qs) = setS (setS ρ ps) qs
  | [], _, _ => rfl
  | (j, d) :: ps, qs, ρ => setS_app ps qs (ρ.set j (.dat d))
theorem low_set {r : Addr} {env : List Va} {j : Nat} {d : PyData} : (env.set j (.dat d)).map (low r) = (env.map (low r)).set j (.dat d) := by rw [List.map_set]; rfl
theorem low_setV {r : Addr} : ∀ (ps : List (Nat × PyData)) (env : List Va), (setV env ps).map (low r) = setS (env.map (low r)) ps
  | [], _ => rfl
  | (j, d) :: ps, env => by
    show (setV (env.set j (.dat d)) ps).map (low r) = setS ((env.map (low r)).set j (.dat d)) ps
    rw [low_setV ps, low_set]
def wipeV (env : List Va) : List Nat → List Va
  | [] => env
  | v :: vs => (wipeV env vs).set v .emp
theorem low_wipeV {r : Addr} {env : List Va} : ∀ vs : List Nat, (wipeV env vs).map (low r) = wipeR (env.map (low r)) vs
  | [] => rfl
  | v :: vs => by
    show ((wipeV env vs).set v .emp).map (low r) = (wipeR _ vs).set v .emp
    rw [List.map_set, low_wipeV vs]
    rfl
def nilK (ds : List PyData) (A : Prop) : Prop := match ds with
  | [] => A
  | _ => False
def consK (ds : List PyData) (Φ : PyData → List PyData → Prop) : Prop := match ds with
  | d :: es => Φ d es
  | _ => False
def JG (K : PySem.W.Frag) (W : Wd) (g : TG) (js : List Nat) (b : FG) : Prop := ∀ d Ψ, b d Ψ → ∃ ps, Ψ ps ∧ ps.map (·.1) = js ∧ ∀ ρ, Tg K W g js d ρ (setS ρ ps)
def JGs (K : PySem.W.Frag) (W : Wd) (n : Nat) (g : TGs) (js : List Nat) (b : FGs) : Prop := ∀ ds Ψ, b ds Ψ → ds.length = n ∧ ∃ ps, Ψ ps ∧ ps.map (·.1) = js ∧ ∀ ρ, Tgs K W g js ds ρ (setS ρ ps)
section
variable {K : PySem.W.Frag} {W : Wd} {r : Addr} {ms : List Addr} {B : Bs} {H H' : Hp} {ρ : List Sl} {σ : St} {ta tb tc te : TE} {tA tB' : TA} {tt t u : TT} {wi : TI} {fa fb fc f fe : FE} {ft fu : FT} {fA fB fs : FA} {n : Nat} {v w : V} {x y d : PyData} {ds : List PyData} {g : TG} {gs : TGs} {b : FG} {bs : FGs} {js ks vs : List Nat}
theorem jg_name (j : Nat) : JG K W (gName j) [j] (fun d Ψ => Ψ [(j, d)]) := fun d Ψ h => ⟨_, h, rfl, fun ρ => tg_name⟩
theorem jgs_nil : JGs K W 0 gNil [] (fun ds Ψ => nilK ds (Ψ [])) := fun ds Ψ h => by
  cases ds with
  | nil => exact ⟨rfl, [], h, rfl, fun ρ => tgs_nil⟩
  | cons d ds => exact False.elim h
theorem jgs_cons (h : JG K W g js b) (hs : JGs K W n gs ks bs) : JGs K W (n + 1) (gCons g gs) (js ++ ks) (fun ds Ψ => consK ds fun d es => b d fun ps => bs es fun qs => Ψ (ps ++ qs)) := fun ds Ψ h1 => by
  cases ds with
  | nil => exact False.elim h1
  | cons d ds =>
    obtain ⟨ps, h2, e1, t1⟩ := h d _ h1
    obtain ⟨el, qs, h3, e2, t2⟩ := hs ds _ h2
    exact ⟨by rw [List.length_cons, el], ps ++ qs, h3, by rw [List.map_append, e1, e2], fun ρ => by rw [setS_app]; exact tgs_cons (t1 ρ) (t2 _)⟩
theorem jg_tup (hs : JGs K W n gs js bs) : JG K W (gTup K n gs) js (fun d Ψ => tupK d fun ds => bs ds Ψ) := fun d Ψ h => by
  obtain ⟨ds, rfl, h⟩ := tupK_of h
  obtain ⟨el, ps, h2, e, t⟩ := hs ds _ h
  exact ⟨ps, h2, e, fun ρ => tg_tup (t ρ) el⟩
/-! ### walks -/
theorem ji_list (h : JE K W r te f) : JI K W r (iList K te) (fun env Φ => f env fun d => lstK d Φ) := ji_lift (F := fun a => iList K a) h (fun σ H Q h => h) fun x Φ h => by
  obtain ⟨ds, rfl, h⟩ := lstK_of h
  exact ⟨ds, h, fun W' a ρ e => src_list e⟩
theorem ji_tup (h : JE K W r te f) : JI K W r (iTup K te) (fun env Φ => f env fun d => tupK d Φ) := ji_lift (F := fun a => iTup K a) h (fun σ H Q h => h) fun x Φ h => by
  obtain ⟨ds, rfl, h⟩ := tupK_of h
  exact ⟨ds, h, fun W' a ρ e => src_tup e⟩
theorem ji_seq (h : JE K W r te f) : JI K W r (iSeq K te) (fun env Φ => f env fun d => seqK d Φ) := ji_lift (F := fun a => iSeq K a) h (fun σ H Q h => h) fun x Φ h => by
  cases x with
  | list ds => exact ⟨ds, h, fun W' a ρ e => src_seqL e⟩
  | tuple ds => exact ⟨ds, h, fun W' a ρ e => src_seqT e⟩
  | _ => exact False.elim h
def rng1K (ds : List PyData) (Φ : List PyData → Prop) : Prop := oneK ds fun d => intK d fun n => (-1000000000 ≤ n ∧ n ≤ 1000000000) ∧ Φ (rangeD n)
theorem ji_rng1 (h : JA K W r 1 tA fA) : JI K W r (iRng1 tA) (fun env Φ => fA env fun ds => rng1K ds Φ) := ji_liftA (F := fun a => iRng1 a) h (fun σ H Q h => h) fun ds Φ h => by
  obtain ⟨d, rfl, h⟩ := oneK_of h
  obtain ⟨n, rfl, hn, h⟩ := intK_of h
  exact ⟨_, h, fun W' a ρ e => src_range e hn.2 hn.1⟩
def rangeL (lo n : Int) : List PyData := (List.range (n - lo).toNat).map fun i => PyData.int (lo + (i : Nat))
def rng2K (ds : List PyData) (Φ : List PyData → Prop) : Prop := twoK ds fun d e => intK d fun lo => intK e fun n => ((-1000000000 ≤ lo ∧ lo ≤ 1000000000) ∧ -1000000000 ≤ n ∧ n ≤ 1000000000) ∧ Φ (rangeL lo n)
theorem ji_rng2 (h : JA K W r 2 tA fA) : JI K W r (iRng2 tA) (fun env Φ => fA env fun ds => rng2K ds Φ) := ji_liftA (F := fun a => iRng2 a) h (fun σ H Q h => h) fun ds Φ h => by
  obtain ⟨d, e, rfl, h1⟩ := twoK_of h
  obtain ⟨lo, rfl, h2⟩ := intK_of h1
  obtain ⟨n, rfl, hn, h3⟩ := intK_of h2
  exact ⟨_, h3, fun W' a ρ e => src_range2 e hn.2.2 hn.2.1 hn.1.2 hn.1.1⟩
def rng3K (ds : List PyData) (Φ : List PyData → Prop) : Prop := match ds with
  | [.int a, .int b, .int c] => (c = -1 ∧ (-1000000 ≤ a ∧ a ≤ 1000000) ∧ -1000000 ≤ b ∧ b ≤ 1000000) ∧ Φ ((List.range (a - b).toNat).map fun i => PyData.int (a - (i : Nat)))
  | _ => False
theorem ji_down (h : JA K W r 3 tA fA) : JI K W r (iRng3 tA) (fun env Φ => fA env fun ds => rng3K ds Φ) := ji_liftA (F := fun a => iRng3 a) h (fun σ H Q h => h) fun ds Φ h => by
  unfold rng3K at h
  split at h
  · obtain ⟨⟨rfl, ha, hb⟩, h⟩ := h
    exact ⟨_, h, fun W' a ρ e => src_down e ha hb⟩
  · exact False.elim h
def zipD (ds es : List PyData) : List PyData := List.zipWith (fun a b => PyData.tuple [a, b]) ds es
def zipAK (ds : List PyData) (Φ : List PyData → Prop) : Prop := match ds with
  | [.list a, .list b] => Φ (zipD a b)
  | [.tuple a, .tuple b] => Φ (zipD a b)
  | _ => False
theorem ji_zipA (h : JA K W r 2 tA fA) : JI K W r (iZipA K tA) (fun env Φ => fA env fun ds => zipAK ds Φ) := ji_liftA (F := fun a => iZipA K a) h (fun σ H Q h => h) fun ds Φ h => by
  unfold zipAK at h
  split at h
  · exact ⟨_, h, fun W' a ρ e => src_zipL e⟩
  · exact ⟨_, h, fun W' a ρ e => src_zipT e⟩
  · exact False.elim h
def zipXK (ds : List PyData) (Φ : List PyData → Prop) : Prop := twoK ds fun d e => seqK d fun a => seqK e fun b => Φ (zipD a b)
theorem seqK_of {d : PyData} {Φ : List PyData → Prop} (h : seqK d Φ) : ∃ b ds, d = sq b ds ∧ Φ ds := by
  cases d with
  | list ds => exact ⟨true, ds, rfl, h⟩
  | tuple ds => exact ⟨false, ds, rfl, h⟩
  | _ => exact False.elim h
theorem ji_zipX (h : JA K W r 2 tA fA) : JI K W r (iZipX K tA) (fun env Φ => fA env fun ds => zipXK ds Φ) := ji_liftA (F := fun a => iZipX K a) h (fun σ H Q h => h) fun ds Φ h => by
  obtain ⟨d, e, rfl, h1⟩ := twoK_of h
  obtain ⟨b1, ds1, rfl, h2⟩ := seqK_of h1
  obtain ⟨b2, ds2, rfl, h3⟩ := seqK_of h2
  exact ⟨_, h3, fun W' a ρ e => src_zipX e⟩
def enumLK (ds : List PyData) (Φ : List PyData → Prop) : Prop := oneK ds fun d => lstK d fun es => Φ (enumD es)
theorem ji_enumL (h : JA K W r 1 tA fA) : JI K W r (iEnum K tA) (fun env Φ => fA env fun ds => enumLK ds Φ) := ji_liftA (F := fun a => iEnum K a) h (fun σ H Q h => h) fun ds Φ h => by
  obtain ⟨d, rfl, h1⟩ := oneK_of h
  obtain ⟨es, rfl, h2⟩ := lstK_of h1
  exact ⟨_, h2, fun W' a ρ e => src_enumL e⟩
def enumTK (ds : List PyData) (Φ : List PyData → Prop) : Prop := oneK ds fun d => tupK d fun es => Φ (enumD es)
theorem ji_enumT (h : JA K W r 1 tA fA) : JI K W r (iEnumT K tA) (fun env Φ => fA env fun ds => enumTK ds Φ) := ji_liftA (F := fun a => iEnumT K a) h (fun σ H Q h => h) fun ds Φ h => by
  obtain ⟨d, rfl, h1⟩ := oneK_of h
  obtain ⟨es, rfl, h2⟩ := tupK_of h1
  exact ⟨_, h2, fun W' a ρ e => src_enumT e⟩
/-! ### comprehensions -/
def stepW (b : FG) (ft : FT) (fe : FE) (env : List Va) (d : PyData) (A : PyData → Prop) (C : Prop) : Prop := b d fun ps => ft (setV env ps) fun c => ifK c (fe (setV env ps) A) C
def lcW (b : FG) (ft : FT) (fe : FE) (env : List Va) : List PyData → List PyData → (List PyData → Prop) → Prop
  | [], acc, Φ => Φ acc
  | d :: ds, acc, Φ => stepW b ft fe env d (fun e => lcW b ft fe env ds (acc ++ [e]) Φ) (lcW b ft fe env ds acc Φ)
theorem jf_lc (hs : JI K W r wi fs) (hg : JG K W g js b) (ht : JT K W r tt ft) (he : JE K W r te fe) (hj : ∀ j ∈ js, j ∈ vs) : JF K W r (tLc wi g tt te vs) (fun env Φ => fs env fun ds => ds.length ≤ 16000000 ∧ lcW b ft fe (wipeV env vs) ds [] Φ) := fun env Φ φ ms B σ H_ a Q q =>
  hs env _ φ ms B σ H_ a _ fun ds J H1 ψ h1 x1 stm => by
    obtain ⟨hz, ψ⟩ := ψ
    obtain ⟨G, Y, wk, st⟩ := stm
    intro Dl hD
    obtain ⟨_, hm, hw⟩ := h1.fresh hD
    have lw : (wipeV env vs).map (low r) = wipeR (env.map (low r)) vs := low_wipeV vs
    have data : ∀ {H : Hp}, At K W (Dl :: ms) ⟨H1, H1⟩ ((wipeV env vs).map (low r)) (L2.wipe σ vs) H → Same (cut ms H1) (cut (Dl :: ms) H) := fun {H} l => (cut_new hD).trans l.st
    refine lc_it wk (fun i H => At K W (Dl :: ms) ⟨H1, H1⟩ ((wipeV env vs).map (low r)) (L2.wipe σ vs) H ∧ ∃ acc es, H Dl = some (.lst acc) ∧ DpAll K (cut (Dl :: ms) H) acc es ∧ acc.length ≤ i ∧ lcW b ft fe (wipeV env vs) (ds.drop i) es Φ) ?_ (fun i H _ l => (st _ H (data l.1)).1) (fun i x H H' hi l y => ?_) fun H l => ?_
    · refine ⟨?_, [], [], upd_same, .nil, Nat.le_refl _, ψ⟩
      rw [lw]
      exact (h1.base.own hD).wipe vs
    · obtain ⟨l0, acc, es, e1, e2, e3, e4⟩ := l
      obtain ⟨s, hd⟩ := (st _ H (data l0)).2 i x H' l0.live y
      have hx : ds[i]? = some ds[i] := List.getElem?_eq_getElem hi
      have o := hd _ hx
      have l' := l0.same s
      rw [List.drop_eq_getElem_cons hi] at e4
      obtain ⟨ps, φ2, ej, tg⟩ := hg _ _ e4
      refine tg _ _ _ _ _ x l' o _ fun σ2 h2 df => ⟨wipe_diff df hj, ?_⟩
      rw [← low_setV] at h2
      refine ht _ _ φ2 _ _ _ _ h2 _ fun c H3 φ3 g3 x3 => ?_
      have f1 := s _ _ e1
      have m1 : Same (cut (Dl :: ms) H) (cut (Dl :: ms) H') := (XW.of_same (ws := W.ws) s).cut l0.sub
      cases c with
      | true =>
        refine iteT (he _ _ φ3 _ _ _ _ g3 _ fun s' y' H4 φ4 g4 x4 o4 => ?_)
        obtain ⟨d4, rfl, φ4⟩ := φ4
        have x34 := x3.trans x4
        refine ⟨acc, x34 _ _ hw f1, Nat.lt_of_le_of_lt e3 (Nat.lt_of_lt_of_le (show i < 16000000 by omega) (by decide)), (l'.go x34 g4.live g4.p).write List.mem_cons_self hw hD (nx_lst (x34 _ _ hw f1)), acc ++ [y'], es ++ [d4], upd_same, ?_, by rw [List.length_append, List.length_singleton]; omega, φ4⟩
        exact dpa_snoc (dpa_mono ((m1.trans (x34.cut l0.sub)).trans cut_drop) _ _ e2) (dp_mono cut_drop _ _ o4)
      | false =>
        refine iteF ?_
        exact ⟨l'.go x3 g3.live g3.p, acc, es, x3 _ _ hw f1, dpa_mono (m1.trans (x3.cut l0.sub)) _ _ e2, by omega, φ3⟩
    · obtain ⟨l0, acc, es, e1, e2, e3, e4⟩ := l
      rw [List.drop_length] at e4
      refine q es Dl acc H e4 (h1.back l0 rfl fun a z => List.mem_cons_of_mem _ z) (x1.trans l0.xw) ?_ e1 e2
      cases q : H_ Dl with
      | none => rfl
      | some o => rw [x1 Dl o hw q] at hD; cases hD
theorem je_of_jf (h : JF K W r te fs) : JE K W r te (fun env Φ => fs env fun ds => Φ (.list ds)) := fun env Φ φ => (en_of_ef (h env _ φ)).imp fun s ⟨ds, e, q⟩ => ⟨.list ds, e, q⟩
theorem je_lc (hs : JI K W r wi fs) (hg : JG K W g js b) (ht : JT K W r tt ft) (he : JE K W r te fe) (hj : ∀ j ∈ js, j ∈ vs := by decide) : JE K W r (tLc wi g tt te vs) (fun env Φ => fs env fun ds => ds.length ≤ 16000000 ∧ lcW b ft fe (wipeV env vs) ds [] fun es => Φ (.list es)) := je_of_jf (jf_lc hs hg ht he hj)
/-- what is told of the items is told of the list -/
theorem lcW_all {α : Type} {enc : α → PyData} {P : α → PyData → Prop} {p : α → Bool} {env : List Va} {Φ : List PyData → Prop} : ∀ {xs : List α} {acc : List PyData}, (∀ x ∈ xs, ∀ (A : PyData → Prop) (C : Prop), (p x = true → ∀ e, P x e → A e) → (p x = false → C) → stepW b ft fe env (enc x) A C) →
    (∀ es, Paired P (xs.filter p) es → Φ (acc ++ es)) → lcW b ft fe env (xs.map enc) acc Φ
  | [], acc, _, k => by
    have := k [] .nil
    rwa [List.append_nil] at this
  | x :: xs, acc, h, k => by
    refine h x List.mem_cons_self _ _ (fun e d q => ?_) fun e => ?_
    · refine lcW_all (fun y hy => h y (List.mem_cons_of_mem _ hy)) fun es pr => ?_
      rw [List.append_assoc]
      exact k (d :: es) (by rw [List.filter_cons_of_pos e]; exact .cons q pr)
    · refine lcW_all (fun y hy => h y (List.mem_cons_of_mem _ hy)) fun es pr => k es ?_
      rw [List.filter_cons_of_neg (by rw [e]; decide)]
      exact pr
theorem lcW_map0 {f : PyData → PyData} {env : List Va} {Φ : List PyData → Prop} {xs : List PyData} (h : ∀ x ∈ xs, ∀ (A : PyData → Prop) (C : Prop), A (f x) → stepW b ft fe env x A C) (k : Φ (xs.map f)) : lcW b ft fe env xs [] Φ := by
  have := lcW_all (b := b) (ft := ft) (fe := fe) (enc := fun x => x) (P := fun x d => d = f x) (p := fun _ => true) (env := env) (Φ := Φ) (xs := xs) (acc := []) (fun x hx A C h1 _ => h x hx A C (h1 rfl _ rfl)) fun es pr => by
    rw [List.filter_eq_self.mpr fun _ _ => rfl] at pr
    rw [List.nil_append, paired_map pr]
    exact k
  rwa [List.map_id'] at this
theorem lcW_fil {α : Type} {enc f : α → PyData} {p : α → Bool} {env : List Va} {Φ : List PyData → Prop} {xs : List α} (h : ∀ x ∈ xs, ∀ (A : PyData → Prop) (C : Prop), (p x = true → A (f x)) → (p x = false → C) → stepW b ft fe env (enc x) A C)
    (k : Φ ((xs.filter p).map f)) : lcW b ft fe env (xs.map enc) [] Φ := lcW_all (P := fun x d => d = f x) (p := p) (fun x hx A C h1 h0 => h x hx A C (fun e => h1 e _ rfl) h0) fun es pr => by
  rw [List.nil_append, paired_map pr]
  exact k
theorem lcW_map {α : Type} {enc f : α → PyData} {env : List Va} {Φ : List PyData → Prop} {xs : List α} (h : ∀ x ∈ xs, ∀ (A : PyData → Prop) (C : Prop), A (f x) → stepW b ft fe env (enc x) A C)
    (k : Φ (xs.map f)) : lcW b ft fe env (xs.map enc) [] Φ := lcW_fil (p := fun _ => true) (fun x hx A C h1 _ => h x hx A C (h1 rfl)) (by rw [List.filter_eq_self.mpr fun _ _ => rfl]; exact k)
/-- each item is told of, none is left out -/
theorem lcW_each {α : Type} {enc : α → PyData} {P : α → PyData → Prop} {env : List Va} {Φ : List PyData → Prop} {xs : List α} (h : ∀ x ∈ xs, ∀ (A : PyData → Prop) (C : Prop), (∀ e, P x e → A e) → stepW b ft fe env (enc x) A C)
    (k : ∀ es, Paired P xs es → Φ es) : lcW b ft fe env (xs.map enc) [] Φ := lcW_all (p := fun _ => true) (fun x hx A C h1 _ => h x hx A C (h1 rfl)) fun es pr => by
  rw [List.filter_eq_self.mpr fun _ _ => rfl] at pr
  exact k es pr
/-! ### new lists -/
theorem jf_liftA {F : TA → TE} {op : List PyData → (List PyData → Prop) → Prop} (ha : JA K W r n tA fA) (hF : ∀ σ H Q, (tA σ H fun vs H1 => F (fun _ H Q => Q vs H) σ H1 Q) → F tA σ H Q)
    (rule : ∀ ds Φ, ds.length = n → op ds Φ → ∃ es, Φ es ∧ ∀ (W' : Wd) (ta' : TA) (ρ : List Sl), EvD K W' ta' ρ ds → EvF K W' (F ta') ρ (· = es)) : JF K W r (F tA) (fun env Φ => fA env fun ds => op ds Φ) := fun env Φ h ms B σ H a Q q =>
  hF _ _ _ (ha env _ h ms B σ H a _ fun ds vs H1 φ h1 x1 o1 => by
    obtain ⟨es, he, ru⟩ := rule ds Φ φ.1 φ.2
    exact ru (WCs W K vs ds) _ _ evD_c ms B σ H1 (at_cs h1 o1) Q fun es' p ws H2 e h2 x2 hp e2 d2 => by
      subst e
      refine q es' p ws H2 he (of_cs h2) (x1.trans x2) ?_ e2 d2
      have hw := (h1.fresh hp).2.2
      cases z : H p with
      | none => rfl
      | some o => rw [x1 p o hw z] at hp; cases hp)
theorem jf_lst (h : JA K W r n tA fA) (hn : n ≤ 100000 := by decide) : JF K W r (tLst tA) (fun env Φ => fA env Φ) := jf_liftA (F := fun a => tLst a) (op := fun ds Φ => Φ ds) h (fun σ H Q h => h) fun ds Φ el h => ⟨ds, h, fun W' a ρ e => ef_lst e (by rw [el]; exact hn)⟩
def lstK1 (ds : List PyData) (Φ : List PyData → Prop) : Prop := oneK ds fun d => seqK d Φ
theorem jf_list (h : JA K W r 1 tA fA) : JF K W r (tCB (rLstOf K) tA) (fun env Φ => fA env fun ds => lstK1 ds Φ) := jf_liftA (F := fun a => tCB (rLstOf K) a) h (fun σ H Q h => h) fun ds Φ _ h => by
  obtain ⟨d, rfl, h⟩ := oneK_of h
  have key : ∀ {es : List PyData}, (∀ (H : Hp) (v : V), Dp K H v d → ∃ p ys, v = .ref p ∧ (SqL K H p ys ∨ SqT K H p ys) ∧ DpAll K H ys es) → ∀ (W' : Wd) (ta' : TA) (ρ : List Sl), EvD K W' ta' ρ [d] → EvF K W' (tCB (rLstOf K) ta') ρ (· = es) := fun {es} hd W' ta' ρ e ms B σ H a Q q => e ms B σ H a _ fun vs H1 h1 x1 o1 => by
    cases o1 with
    | cons o1 o2 =>
      cases o2
      obtain ⟨p, ys, rfl, hs, hy⟩ := hd _ _ o1
      refine ⟨p, ys, rfl, hs.elim (fun z => .inl (sql_mono cut_le z)) (fun z => .inr (sqt_mono cut_le z)), fun l hl => ?_⟩
      have hw := (h1.fresh hl).2.2
      refine q es l ys _ rfl (h1.same (same_put hl)) (x1.trans (.of_same (same_put hl))) ?_ upd_same (dpa_mono ((cut_new hl).trans cut_drop) _ _ hy)
      cases z : H l with
      | none => rfl
      | some o => rw [x1 l o hw z] at hl; cases hl
  cases d with
  | list es => exact ⟨es, h, key fun H v o => by cases o with | lst hs ha => exact ⟨_, _, rfl, .inl hs, ha⟩⟩
  | tuple es => exact ⟨es, h, key fun H v o => by cases o with | tup hs ha => exact ⟨_, _, rfl, .inr hs, ha⟩⟩
  | _ => exact False.elim h
/-! ### slices and the like -/
def tillTK (x y : PyData) (Φ : PyData → Prop) : Prop := tupK x fun ds => intK y fun i => 0 ≤ i ∧ Φ (.tuple (ds.take i.toNat))
theorem je_tillT (ha : JE K W r ta fa) (hb : JE K W r tb fb) : JE K W r (tSl (rSlA K) ta tNoPart (tPart tb)) (fun env Φ => fa env fun x => fb env fun y => tillTK x y Φ) := je_lift2 (F := fun a b => tSl (rSlA K) a tNoPart (tPart b)) ha hb (fun σ H Q h => h) fun x y Φ h => by
  obtain ⟨ds, rfl, h1⟩ := tupK_of h
  obtain ⟨i, rfl, h0, h2⟩ := intK_of h1
  exact ⟨_, h2, fun W' a b ρ e1 e2 => ev_tillT e1 (evd_eq e2 (by congr 1; omega))⟩
def fromTK (x y : PyData) (Φ : PyData → Prop) : Prop := tupK x fun ds => intK y fun i => 0 ≤ i ∧ Φ (.tuple (ds.drop i.toNat))
theorem je_fromT (ha : JE K W r ta fa) (hb : JE K W r tb fb) : JE K W r (tSl (rSlA K) ta (tPart tb) tNoPart) (fun env Φ => fa env fun x => fb env fun y => fromTK x y Φ) := je_lift2 (F := fun a b => tSl (rSlA K) a (tPart b) tNoPart) ha hb (fun σ H Q h => h) fun x y Φ h => by
  obtain ⟨ds, rfl, h1⟩ := tupK_of h
  obtain ⟨i, rfl, h0, h2⟩ := intK_of h1
  exact ⟨_, h2, fun W' a b ρ e1 e2 => ev_fromT e1 (evd_eq e2 (by congr 1; omega))⟩
def revTK (x : PyData) (Φ : PyData → Prop) : Prop := tupK x fun ds => Φ (.tuple ds.reverse)
theorem je_revT (ha : JE K W r ta fa) : JE K W r (tRevT K ta) (fun env Φ => fa env fun x => revTK x Φ) := je_lift (F := fun a => tRevT K a) ha (fun σ H Q h => h) fun x Φ h => by
  obtain ⟨ds, rfl, h1⟩ := tupK_of h
  exact ⟨_, h1, fun W' a ρ e => ev_revT e⟩
def tupRgK (x : PyData) (Φ : PyData → Prop) : Prop := intK x fun n => (0 ≤ n ∧ n ≤ 100000) ∧ Φ (.tuple (rangeD n))
theorem je_tupRg (ha : JE K W r ta fa) : JE K W r (tTupRg (tRg1 ta)) (fun env Φ => fa env fun x => tupRgK x Φ) := je_lift (F := fun a => tTupRg (tRg1 a)) ha (fun σ H Q h => h) fun x Φ h => by
  obtain ⟨n, rfl, hn, h1⟩ := intK_of h
  refine ⟨_, h1, fun W' a ρ e => ?_⟩
  have := ev_tupRg (n := n.toNat) (evd_eq e (by congr 1; omega)) (by omega)
  exact this
end
end Wp

/-! Wp, 4: what a statement wishes; defs. -/
namespace Wp
open PySem L2 Fw
open PyProof.Rows (envOfC)
theorem AtE0.hcE {K : PySem.W.Frag} {W : Wd} {r : Addr} {h0 hc : Hp} {ms0 ms : List Addr} {env : List Va} {σ : St} {H : Hp} {ρ : List Sl} {os : List (Addr × List PyData)} (h : AtE0 K W r h0 hc ms0 env σ H ms ρ os) : Same hc (cut ms0 H) := h.hc.trans (cut_sub h.sub)
end Wp
namespace Fw
open PySem L2
theorem At.un2 {K : PySem.W.Frag} {W : Wd} {ms : List Addr} {h0 h1 hb H : Hp} {ρ : List Sl} {σ : St} (h : At K W ms ⟨h0, h1⟩ ρ σ H) (s : Same (cut ms hb) (cut ms H)) : At K W ms ⟨h0, hb⟩ ρ σ H := ⟨h.sub, h.live, h.env, h.p, h.xw, s, h.c⟩
end Fw
namespace Wp
open PySem L2 Fw
open PyProof.Rows (envOfC)
structure Post where
  nx : List Va → Prop
  rt : PyData → Prop := fun _ => False
  bk : List Va → Prop := fun _ => False
  ct : List Va → Prop := fun _ => False
  ex : Addr → List Va → Prop := fun _ _ => False
  exf : Addr → Str → PyData → List Va → Prop := fun _ _ _ _ => False
  ro : Sc.Out → Prop := fun _ => False
abbrev FS := List Va → Post → Prop
structure EndsOk (K : PySem.W.Frag) (W : Wd) (r : Addr) (X : WX) (h0 hc : Hp) (ms0 : List Addr) (P : Post) (D : Ends) : Prop where
  nx : ∀ env σ H, P.nx env → AtE K W r h0 hc ms0 env σ H → D.nx σ H
  rt : ∀ d v H, P.rt d → At K W ms0 ⟨h0, H⟩ [] [] H → Same hc (cut ms0 H) → Dp K (cut ms0 H) v d → D.rt v H
  bk : ∀ env σ H, P.bk env → AtE K W r h0 hc ms0 env σ H → D.bk σ H
  ct : ∀ env σ H, P.ct env → AtE K W r h0 hc ms0 env σ H → D.ct σ H
  ex : ∀ c env σ H, P.ex c env → AtE K W r h0 hc ms0 env σ H → X (.ref c) none σ H
  exf : ∀ c f d env σ H dx v, P.exf c f d env → (∃ ms ρ os, AtE0 K W r h0 hc ms0 env σ H ms ρ os ∧ dx ∉ ms ∧ Dp K (cut (les os ms) H) v d) → h0 dx = none → H dx = some (.xd [(f, v)]) → X (.ref c) (some dx) σ H
  ro : ∀ o v H, P.ro o → At K W ms0 ⟨h0, H⟩ [] [] H → Same hc (cut ms0 H) → Sc.ArgO K (cut ms0 H) o v → D.rt v H
def JS (K : PySem.W.Frag) (W : Wd) (r : Addr) (X : WX) (ts : TS) (f : FS) : Prop := ∀ env P, f env P → ∀ h0 hc ms0 σ H D, AtE K W r h0 hc ms0 env σ H → EndsOk K W r X h0 hc ms0 P D → ts D σ H
def ownK (env : List Va) (i : Nat) (Φ : List PyData → Prop) : Prop := match env[i]? with
  | some (.own ds) => Φ ds
  | _ => False
theorem ownK_of {env : List Va} {i : Nat} {Φ : List PyData → Prop} (h : ownK env i Φ) : ∃ ds, env[i]? = some (.own ds) ∧ Φ ds := by
  unfold ownK at h
  split at h
  · exact ⟨_, by assumption, h⟩
  · exact False.elim h
def datK (env : List Va) (i : Nat) (Φ : PyData → Prop) : Prop := match env[i]? with
  | some (.dat ds) => Φ ds
  | _ => False
theorem datK_of {env : List Va} {i : Nat} {Φ : PyData → Prop} (h : datK env i Φ) : ∃ ds, env[i]? = some (.dat ds) ∧ Φ ds := by
  unfold datK at h
  split at h
  · exact ⟨_, by assumption, h⟩
  · exact False.elim h
def frzV (env : List Va) (i : Nat) : List Va := match env[i]? with
  | some (.own ds) => env.set i (.dat (.list ds))
  | _ => env
def forW (b : FG) (body : FS) : List PyData → List Va → Post → Prop
  | [], env, P => P.nx env
  | d :: ds, env, P => b d fun ps => body (setV env ps) { nx := fun e => forW b body ds e P, rt := P.rt, bk := P.nx, ct := fun e => forW b body ds e P, ex := P.ex, exf := P.exf, ro := P.ro }
def whileW (ft : FT) (body : FS) (env : List Va) (P : Post) : Prop := ∃ I : Nat → List Va → Prop, (∃ m, I m env) ∧ ∀ m e, I m e → ft e fun b => ifK b (body e { nx := fun e' => ∃ m', m' < m ∧ I m' e', rt := P.rt, bk := P.nx, ct := fun e' => ∃ m', m' < m ∧ I m' e', ex := P.ex, exf := P.exf, ro := P.ro }) (P.nx e)
section
variable {K : PySem.W.Frag} {W : Wd} {r : Addr} {X : WX} {ms : List Addr} {B : Bs} {H H' : Hp} {ρ : List Sl} {σ : St} {ta tb tc te ti : TE} {tA tB' : TA} {tt t u : TT} {ts ts' : TS} {wi : TI} {fa fb fc fe fi : FE} {f f' : FS} {ft fu : FT} {fA fB fs : FA} {n i j k : Nat} {v w : V} {x y d : PyData} {ds : List PyData} {g : TG} {b : FG} {js : List Nat} {E : XK} {Es : St → XK}
theorem jc_seq (h1 : JS K W r X ts f) (h2 : JS K W r X ts' f') : JS K W r X (tSeq ts ts') (fun env P => f env { nx := fun e => f' e P, rt := P.rt, bk := P.bk, ct := P.ct, ex := P.ex, exf := P.exf, ro := P.ro }) := fun env P φ h0 hc ms0 σ H D a k =>
  h1 env _ φ h0 hc ms0 σ H { D with nx := ts' D } a ⟨fun env σ H q a => h2 env P q h0 hc ms0 σ H D a k, k.rt, k.bk, k.ct, k.ex, k.exf, k.ro⟩
theorem jc_next : JS K W r X tNext (fun env P => P.nx env) := fun env P φ h0 hc ms0 σ H D a k => k.nx env σ H φ a
theorem jc_break : JS K W r X tBreak (fun env P => P.bk env) := fun env P φ h0 hc ms0 σ H D a k => k.bk env σ H φ a
theorem jc_cont : JS K W r X tCont (fun env P => P.ct env) := fun env P φ h0 hc ms0 σ H D a k => k.ct env σ H φ a
theorem jc_never : JS K W r X tNever (fun _ _ => False) := fun env P φ => False.elim φ
theorem jc_frz (i : Nat) (h : JS K W r X ts f) : JS K W r X ts (fun env P => f (frzV env i) P) := fun env P φ h0 hc ms0 σ H D a k => by
  have φ : f (frzV env i) P := φ
  unfold frzV at φ
  split at φ
  · rename_i ds e
    obtain ⟨ms, ρ, os, a⟩ := a
    obtain ⟨ms', ρ', os', a'⟩ := a.frz e
    exact h _ P φ h0 hc ms0 σ H D ⟨ms', ρ', os', a'⟩ k
  · exact h _ P φ h0 hc ms0 σ H D a k
theorem jc_ret (h : JE K W r te fe) : JS K W r X (tRet te) (fun env P => fe env P.rt) := fun env P φ h0 hc ms0 σ H D ⟨ms, ρ, os, a⟩ k =>
  h env _ φ _ _ σ H a.lent _ fun s v H1 ψ g x o => by
    obtain ⟨d, rfl, ψ⟩ := ψ
    have a1 := a.backL g x
    exact k.rt d v H1 ψ a1.end_ a1.hcE (dp_mono (cut_sub a1.les_sub) _ _ o)
theorem jc_retN : JS K W r X tRetN (fun env P => P.rt .none) := fun env P φ h0 hc ms0 σ H D ⟨ms, ρ, os, a⟩ k => k.rt .none .non H φ a.end_ a.hcE .non
theorem jc_if (h : JT K W r t ft) (h1 : JS K W r X ts f) (h2 : JS K W r X ts' f') : JS K W r X (tIfS t ts ts') (fun env P => ft env fun b => ifK b (f env P) (f' env P)) := fun env P φ h0 hc ms0 σ H D ⟨ms, ρ, os, a⟩ k =>
  h env _ φ _ _ σ H a.lent _ fun b H1 ψ g x => by
    have a1 : AtE K W r h0 hc ms0 env σ H1 := ⟨_, _, _, a.backL g x⟩
    cases b with
    | true => exact iteT (h1 env P ψ h0 hc ms0 σ H1 D a1 k)
    | false => exact iteF (h2 env P ψ h0 hc ms0 σ H1 D a1 k)
/-- x = e, e without own lists -/
theorem jc_asg (i : Nat) (h : JE K W r te fe) : JS K W r X (tAsg te (gName i)) (fun env P => fe (env.map hid) fun d => P.nx (env.set i (.dat d))) := fun env P φ h0 hc ms0 σ H D ⟨ms, ρ, os, a⟩ k =>
  h _ _ φ _ _ σ H a.hidden _ fun s v H1 ψ g x o => by
    obtain ⟨d, rfl, ψ⟩ := ψ
    obtain ⟨os', a1, _⟩ := (a.backH g x).set o i
    exact k.nx _ _ _ ψ ⟨_, _, _, a1⟩
/-- x = e, e reads own lists: no list comes -/
theorem jc_asgL (i : Nat) (h : JE K W r te fe) : JS K W r X (tAsg te (gName i)) (fun env P => fe env fun d => noList d = true ∧ P.nx (env.set i (.dat d))) := fun env P φ h0 hc ms0 σ H D ⟨ms, ρ, os, a⟩ k =>
  h _ _ φ _ _ σ H a.lent _ fun s v H1 ψ g x o => by
    obtain ⟨d, rfl, nl, ψ⟩ := ψ
    have a1 := a.backL g x
    obtain ⟨os', a2, _⟩ := a1.set (a1.apart nl o) i
    exact k.nx _ _ _ ψ ⟨_, _, _, a2⟩
theorem jc_drop (h : JE K W r te fe) : JS K W r X (tDrop te) (fun env P => fe env fun d => P.nx env) := fun env P φ h0 hc ms0 σ H D ⟨ms, ρ, os, a⟩ k =>
  h _ _ φ _ _ σ H a.lent _ fun s v H1 ψ g x o => by
    obtain ⟨d, _, ψ⟩ := ψ
    exact k.nx _ _ _ ψ ⟨_, _, _, a.backL g x⟩
theorem at_setS {h0 hc : Hp} {ms0 : List Addr} : ∀ {ps : List (Nat × PyData)} {env : List Va} {ρ : List Sl} {os : List (Addr × List PyData)}, Vs r env ρ os → ∃ os', Vs r (setV env ps) (setS ρ ps) os' ∧ os'.Sublist os
  | [], env, ρ, os, h => ⟨os, h, .refl _⟩
  | (j, d) :: ps, env, ρ, os, h => by
    obtain ⟨os1, a, b⟩ := h.set d j
    obtain ⟨os2, c, e⟩ := at_setS (h0 := h0) (hc := hc) (ms0 := ms0) (ps := ps) a
    exact ⟨os2, c, e.trans b⟩
/-- targets are set -/
theorem AtE0.tg {h0 hc : Hp} {ms0 : List Addr} {env : List Va} {os : List (Addr × List PyData)} {ps : List (Nat × PyData)} (a : AtE0 K W r h0 hc ms0 env σ H ms ρ os) (tg : ∀ ρ, Tg K W g js d ρ (setS ρ ps)) (o : Dp K (cut ms H) v d) {Q : St → Hp → Prop} (k : ∀ σ', AtE K W r h0 hc ms0 (setV env ps) σ' H → Q σ' H) : g v σ H Q := by
  obtain ⟨os', vs, sl⟩ := at_setS (h0 := h0) (hc := hc) (ms0 := ms0) (ps := ps) a.vs
  exact tg ρ ms ⟨h0, H⟩ σ H v a.at_ o Q fun σ' a' _ => k σ' ⟨ms, _, os', vs, a', a.hc, a.ws0, a.sub, (sl.map _).nodup a.nd, fun p hp => a.own p (sl.subset hp), fun p hp => a.out p (sl.subset hp)⟩
theorem jc_tgt (h : JE K W r te fe) (hg : JG K W g js b) : JS K W r X (tAsg te g) (fun env P => fe (env.map hid) fun d => b d fun ps => P.nx (setV env ps)) := fun env P φ h0 hc ms0 σ H D ⟨ms, ρ, os, a⟩ k =>
  h _ _ φ _ _ σ H a.hidden _ fun s v H1 ψ g1 x o => by
    obtain ⟨d, rfl, ψ⟩ := ψ
    obtain ⟨ps, ψ2, _, tg⟩ := hg _ _ ψ
    exact (a.backH g1 x).tg tg o fun σ' a' => k.nx _ _ _ ψ2 a'
theorem jc_tgtL (h : JE K W r te fe) (hg : JG K W g js b) : JS K W r X (tAsg te g) (fun env P => fe env fun d => noList d = true ∧ b d fun ps => P.nx (setV env ps)) := fun env P φ h0 hc ms0 σ H D ⟨ms, ρ, os, a⟩ k =>
  h _ _ φ _ _ σ H a.lent _ fun s v H1 ψ g1 x o => by
    obtain ⟨d, rfl, nl, ψ⟩ := ψ
    obtain ⟨ps, ψ2, _, tg⟩ := hg _ _ ψ
    have a1 := a.backL g1 x
    exact a1.tg tg (a1.apart nl o) fun σ' a' => k.nx _ _ _ ψ2 a'
/-- x = a new list of one's own -/
theorem jc_own (i : Nat) (h : JF K W r te fs) : JS K W r X (tAsg te (gName i)) (fun env P => fs (env.map hid) fun ds => P.nx (env.set i (.own ds))) := fun env P φ h0 hc ms0 σ H D ⟨ms, ρ, os, a⟩ k =>
  h _ _ φ _ _ σ H a.hidden _ fun ds p vs H1 ψ g x hp e o => by
    obtain ⟨os', a1⟩ := a.new (σ' := σ) (ρ' := ρ) g.live g.p x hp e o i
    exact k.nx _ _ _ ψ ⟨_, _, _, a1⟩
theorem jc_ownL (i : Nat) (h : JF K W r te fs) : JS K W r X (tAsg te (gName i)) (fun env P => fs env fun ds => noLists ds = true ∧ P.nx (env.set i (.own ds))) := fun env P φ h0 hc ms0 σ H D ⟨ms, ρ, os, a⟩ k =>
  h _ _ φ _ _ σ H a.lent _ fun ds p vs H1 ψ g x hp e o => by
    obtain ⟨nl, ψ⟩ := ψ
    have b1 := a.backL g x
    have hL : ∀ z ∈ os.map (·.1), ∃ xs, H1 z = some (.lst xs) := b1.lists
    have o2 : DpAll K (cut (os.map (·.1) ++ (p :: les os ms)) H1) vs ds := apart_nolists hL nl o
    obtain ⟨os', a1⟩ := a.new (σ' := σ) (ρ' := ρ) b1.at_.live b1.at_.p x hp e (dpa_mono (cut_sub fun z hz => by
      rw [List.mem_append, List.mem_cons]
      rcases List.mem_cons.mp hz with q | q
      · exact .inr (.inl q)
      · rcases List.mem_append.mp (les_cover (os := os) z q) with w | w
        · exact .inl w
        · exact .inr (.inr w)) _ _ o2) i
    exact k.nx _ _ _ ψ ⟨_, _, _, a1⟩
/-- l.append(e) -/
theorem jc_app (i : Nat) (h : JE K W r te fe) : JS K W r X (tDrop (tBM K "list" rAppend (tVar i) (tCons te tNil))) (fun env P => ownK env i fun ds => fe (env.map hid) fun d => ds.length < 100000 ∧ P.nx (env.set i (.own (ds ++ [d])))) := fun env P φ h0 hc ms0 σ H D ⟨ms, ρ, os, a⟩ k => by
  obtain ⟨ds, e, φ⟩ := ownK_of φ
  obtain ⟨l, vs, es, lw, el, _, _⟩ := a.write (us := []) e
  refine ⟨_, es, .inl ⟨rfl, _, .inl (.inl el)⟩, h _ _ φ _ _ σ H a.hidden _ fun s v H1 ψ g x o => ?_⟩
  obtain ⟨d, rfl, hz, ψ⟩ := ψ
  have a1 := a.backH g x
  obtain ⟨l2, vs2, es2, _, el2, dv2, put⟩ := a1.write (us := []) e
  rw [es] at es2
  obtain rfl : l = l2 := by cases es2; rfl
  obtain ⟨os', a2⟩ := put (vs2 ++ [v]) (ds ++ [d]) (dpa_snoc dv2 o)
  exact ⟨l, vs2, v, rfl, rfl, el2, Nat.lt_of_lt_of_le (by rw [dpa_len dv2]; exact hz) (show 100000 ≤ sizeLine by decide), k.nx _ _ _ ψ ⟨_, _, _, a2⟩⟩
theorem jc_appL (i : Nat) (h : JE K W r te fe) : JS K W r X (tDrop (tBM K "list" rAppend (tVar i) (tCons te tNil))) (fun env P => ownK env i fun ds => fe env fun d => noList d = true ∧ ds.length < 100000 ∧ P.nx (env.set i (.own (ds ++ [d])))) := fun env P φ h0 hc ms0 σ H D ⟨ms, ρ, os, a⟩ k => by
  obtain ⟨ds, e, φ⟩ := ownK_of φ
  obtain ⟨l, vs, es, lw, el, _, _⟩ := a.write (us := []) e
  refine ⟨_, es, .inl ⟨rfl, _, .inl (.inl el)⟩, h _ _ φ _ _ σ H a.lent _ fun s v H1 ψ g x o => ?_⟩
  obtain ⟨d, rfl, nl, hz, ψ⟩ := ψ
  have a1 := a.backL g x
  obtain ⟨l2, vs2, es2, _, el2, dv2, put⟩ := a1.write (us := []) e
  rw [es] at es2
  obtain rfl : l = l2 := by cases es2; rfl
  obtain ⟨os', a2⟩ := put (vs2 ++ [v]) (ds ++ [d]) (dpa_snoc dv2 (a1.apart nl o))
  exact ⟨l, vs2, v, rfl, rfl, el2, Nat.lt_of_lt_of_le (by rw [dpa_len dv2]; exact hz) (show 100000 ≤ sizeLine by decide), k.nx _ _ _ ψ ⟨_, _, _, a2⟩⟩
/-- l.reverse() -/
theorem jc_rev (i : Nat) : JS K W r X (tDrop (tBM0 K "list" rReverse (tVar i))) (fun env P => ownK env i fun ds => P.nx (env.set i (.own ds.reverse))) := fun env P φ h0 hc ms0 σ H D ⟨ms, ρ, os, a⟩ k => by
  obtain ⟨ds, e, φ⟩ := ownK_of φ
  obtain ⟨l, vs, es, lw, el, dv, put⟩ := a.write (us := []) e
  obtain ⟨os', a2⟩ := put vs.reverse ds.reverse (dpa_rev dv)
  exact ⟨_, es, .inl ⟨rfl, _, .inl (.inl el)⟩, l, vs, rfl, rfl, el, k.nx _ _ _ φ ⟨_, _, _, a2⟩⟩
theorem dpa_dropLast {vs : List V} (h : DpAll K H vs ds) : DpAll K H vs.dropLast ds.dropLast := by
  have := dpa_take (vs.length - 1) h
  rw [List.dropLast_eq_take, List.dropLast_eq_take, ← dpa_len h]
  exact this
/-- x = l.pop() -/
theorem jc_pop (j i : Nat) : JS K W r X (tAsg (tBM0 K "list" rPop (tVar i)) (gName j)) (fun env P => ownK env i fun ds => ∃ d, ds.getLast? = some d ∧ P.nx ((env.set i (.own ds.dropLast)).set j (.dat d))) := fun env P φ h0 hc ms0 σ H D ⟨ms, ρ, os, a⟩ k => by
  obtain ⟨ds, e, d, ed, φ⟩ := ownK_of φ
  obtain ⟨l, vs, es, lw, el, dv, put⟩ := a.write (us := []) e
  obtain ⟨os', a2⟩ := put vs.dropLast ds.dropLast (dpa_dropLast dv)
  rw [List.getLast?_eq_getElem?, ← dpa_len dv] at ed
  obtain ⟨v, ev, ov⟩ := dpa_get' dv ed
  refine ⟨_, es, .inl ⟨rfl, _, .inl (.inl el)⟩, l, vs, v, rfl, rfl, el, ev, ?_⟩
  have lm : l ∈ ms := by
    obtain ⟨l2, er, hm, _⟩ := a.vs.at e a.nd
    obtain ⟨w, ew, ow⟩ := a.at_.env.get er (by intro q; cases q)
    obtain rfl : w = .ref l2 := ow
    rw [es] at ew
    cases ew
    exact (a.own _ hm).mem
  obtain ⟨os3, a3, _⟩ := a2.set (dp_mono (cut_put (.inl lm)) _ _ ov) j
  exact k.nx _ _ _ φ ⟨_, _, _, a3⟩
/-- x, y = a, b -/
theorem jc_par (i j : Nat) (h : JA K W r 2 tA fA) : JS K W r X (tPar i j tA) (fun env P => fA (env.map hid) fun ds => twoK ds fun a b => P.nx ((env.set i (.dat a)).set j (.dat b))) := fun env P φ h0 hc ms0 σ H D ⟨ms, ρ, os, a⟩ k =>
  h _ _ φ _ _ σ H a.hidden _ fun ds vs H1 ψ g x o => by
    obtain ⟨da, db, rfl, ψ2⟩ := twoK_of ψ.2
    cases o with
    | cons o1 o2 => cases o2 with
      | cons o2 o3 =>
        cases o3
        have a1 := a.backH g x
        obtain ⟨os1, a2, _⟩ := a1.set o1 i
        obtain ⟨os2, a3, _⟩ := a2.set o2 j
        exact ⟨_, _, rfl, k.nx _ _ _ ψ2 ⟨_, _, _, a3⟩⟩
theorem jc_parL (i j : Nat) (h : JA K W r 2 tA fA) : JS K W r X (tPar i j tA) (fun env P => fA env fun ds => twoK ds fun a b => (noList a = true ∧ noList b = true) ∧ P.nx ((env.set i (.dat a)).set j (.dat b))) := fun env P φ h0 hc ms0 σ H D ⟨ms, ρ, os, a⟩ k =>
  h _ _ φ _ _ σ H a.lent _ fun ds vs H1 ψ g x o => by
    obtain ⟨da, db, rfl, nl, ψ⟩ := twoK_of ψ.2
    cases o with
    | cons o1 o2 => cases o2 with
      | cons o2 o3 =>
        cases o3
        have a1 := a.backL g x
        obtain ⟨os1, a2, _⟩ := a1.set (a1.apart nl.1 o1) i
        obtain ⟨os2, a3, _⟩ := a2.set (a1.apart nl.2 o2) j
        exact ⟨_, _, rfl, k.nx _ _ _ ψ ⟨_, _, _, a3⟩⟩
theorem jc_par3 (i j l : Nat) (h : JA K W r 3 tA fA) : JS K W r X (tPar3 i j l tA) (fun env P => fA (env.map hid) fun ds => consK ds fun a es => twoK es fun b c => P.nx (((env.set i (.dat a)).set j (.dat b)).set l (.dat c))) := fun env P φ h0 hc ms0 σ H D ⟨ms, ρ, os, a⟩ k =>
  h _ _ φ _ _ σ H a.hidden _ fun ds vs H1 ψ g x o => by
    match ds, ψ, o with
    | da :: es, ψ, o =>
      obtain ⟨db, dc, rfl, ψ2⟩ := twoK_of (show twoK es _ from ψ.2)
      cases o with
      | cons o1 o2 => cases o2 with
        | cons o2 o3 => cases o3 with
          | cons o3 o4 =>
            cases o4
            have a1 := a.backH g x
            obtain ⟨os1, a2, _⟩ := a1.set o1 i
            obtain ⟨os2, a3, _⟩ := a2.set o2 j
            obtain ⟨os3, a4, _⟩ := a3.set o3 l
            exact ⟨_, _, _, rfl, k.nx _ _ _ ψ2 ⟨_, _, _, a4⟩⟩
/-- x, y = a new list, b -/
theorem jc_parFE (i j : Nat) (h : JF K W r ta fs) (h2 : JE K W r tb fb) : JS K W r X (tPar i j (tCons ta (tCons tb tNil))) (fun env P => fs (env.map hid) fun ds => fb (env.map hid) fun d => P.nx ((env.set i (.own ds)).set j (.dat d))) := fun env P φ h0 hc ms0 σ H D ⟨ms, ρ, os, a⟩ k =>
  h _ _ φ _ _ σ H a.hidden _ fun ds p vs H1 ψ g x hp e o => by
    have g1 := a.hidden.adopt x g hp e
    refine h2 _ _ ψ _ _ σ H1 g1 _ fun s v H2 ψ2 g2 x2 o2 => ?_
    obtain ⟨d, rfl, ψ2⟩ := ψ2
    have pw := (a.at_.fresh hp).2.2
    have lv : Live ms H2 := fun z hz => g2.live z (List.mem_cons_of_mem _ hz)
    obtain ⟨os', a1⟩ := a.new (σ' := σ) (ρ' := ρ) lv g2.p (x.trans x2) hp (x2 _ _ pw e) (dpa_mono (x2.cut g1.sub) _ _ o) i
    obtain ⟨os2, a2, _⟩ := a1.set o2 j
    exact ⟨_, _, rfl, k.nx _ _ _ ψ2 ⟨_, _, _, a2⟩⟩
/-- x, y = a, a new list -/
theorem jc_parEF (i j : Nat) (h2 : JE K W r ta fa) (h : JF K W r tb fs) : JS K W r X (tPar i j (tCons ta (tCons tb tNil))) (fun env P => fa (env.map hid) fun d => fs (env.map hid) fun ds => P.nx ((env.set i (.dat d)).set j (.own ds))) := fun env P φ h0 hc ms0 σ H D ⟨ms, ρ, os, a⟩ k =>
  h2 _ _ φ _ _ σ H a.hidden _ fun s v H1 ψ g x o => by
    obtain ⟨d, rfl, ψ⟩ := ψ
    have a1 := a.backH g x
    refine h _ _ ψ _ _ σ H1 g _ fun ds p vs H2 ψ2 g2 x2 hp e od => ?_
    have o2 : Dp K (cut ms H2) v d := dp_mono (x2.cut g.sub) _ _ o
    obtain ⟨os', a2, _⟩ := a1.set o i
    obtain ⟨os2, a3⟩ := a2.new (σ' := σ) (ρ' := ρ) g2.live g2.p x2 hp e od j
    exact ⟨_, _, rfl, k.nx _ _ _ ψ2 ⟨_, _, _, a3⟩⟩
/-- x, y = two new lists -/
theorem jc_parFF {fs' : FA} (i j : Nat) (h : JF K W r ta fs) (h2 : JF K W r tb fs') : JS K W r X (tPar i j (tCons ta (tCons tb tNil))) (fun env P => fs (env.map hid) fun ds => fs' (env.map hid) fun es => P.nx ((env.set i (.own ds)).set j (.own es))) := fun env P φ h0 hc ms0 σ H D ⟨ms, ρ, os, a⟩ k =>
  h _ _ φ _ _ σ H a.hidden _ fun ds p vs H1 ψ g x hp e o => by
    have g1 := a.hidden.adopt x g hp e
    refine h2 _ _ ψ _ _ σ H1 g1 _ fun es q ws H2 ψ2 g2 x2 hq e2 o2 => ?_
    obtain ⟨os', a1⟩ := a.new (σ' := σ) (ρ' := ρ) g.live g.p x hp e o i
    obtain ⟨os2, a2⟩ := a1.new (σ' := σ) (ρ' := ρ) g2.live g2.p x2 hq e2 o2 j
    exact ⟨_, _, rfl, k.nx _ _ _ ψ2 ⟨_, _, _, a2⟩⟩
/-- x += e, ints -/
theorem jc_aug {op : Int → Int → Int} (i : Nat) (h : JE K W r te fe) : JS K W r X (tAug i te (ipI op)) (fun env P => datK env i fun x => fe (env.map hid) fun y => iiK (fun a b => .int (op a b)) x y fun z => P.nx (env.set i (.dat z))) := fun env P φ h0 hc ms0 σ H D ⟨ms, ρ, os, a⟩ k => by
  obtain ⟨x, e, φ⟩ := datK_of φ
  have em : ((env.map hid).map (low r))[i]? = some (.dat x) := by rw [List.getElem?_map, List.getElem?_map, e]; rfl
  obtain ⟨v, ev, ov⟩ := a.hidden.env.get em (by intro q; cases q)
  refine ⟨v, ev, h _ _ φ _ _ σ H a.hidden _ fun s w H1 ψ g x1 o => ?_⟩
  obtain ⟨y, rfl, ψ⟩ := ψ
  obtain ⟨n1, n2, rfl, rfl, ψ⟩ := iiK_of ψ
  cases ov; cases o
  obtain ⟨os', a1, _⟩ := (a.backH g x1).set (v := .int (op n1 n2)) (d := .int (op n1 n2)) (.int _) i
  exact ⟨n1, n2, rfl, rfl, k.nx _ _ _ ψ ⟨_, _, _, a1⟩⟩
/-- l[j] = e -/
theorem jc_setL (i : Nat) (h : JE K W r te fe) (hi : JE K W r ti fi) : JS K W r X (tAsg te (gSub (tVar i) ti rSetL)) (fun env P => ownK env i fun ds => fe env fun d => noList d = true ∧ fi env fun z => intK z fun n => (0 ≤ n ∧ n < (ds.length : Int)) ∧ P.nx (env.set i (.own (ds.set n.toNat d)))) := fun env P φ h0 hc ms0 σ H D ⟨ms, ρ, os, a⟩ k => by
  obtain ⟨ds, e, φ⟩ := ownK_of φ
  refine h _ _ φ _ _ σ H a.lent _ fun s v H1 ψ g x o => ?_
  obtain ⟨d, rfl, nl, ψ⟩ := ψ
  have a1 := a.backL g x
  have o1 := a1.apart nl o
  obtain ⟨l, _, es, _⟩ := a1.write (us := []) e
  refine ⟨_, es, hi _ _ ψ _ _ σ H1 a1.lent _ fun s jv H2 ψ2 g2 x2 oj => ?_⟩
  obtain ⟨z, rfl, ψ2⟩ := ψ2
  obtain ⟨n, rfl, hn, ψ3⟩ := intK_of ψ2
  cases oj
  have a2 := a1.backL g2 x2
  obtain ⟨l2, vs2, es2, _, el2, dv2, put⟩ := a2.write (us := []) e
  rw [es] at es2
  obtain rfl : l = l2 := by cases es2; rfl
  obtain ⟨os', a3⟩ := put (vs2.set n.toNat v) (ds.set n.toNat d) (dpa_set _ (dp_mono (x2.cut a1.at_.sub) _ _ o1) dv2)
  refine ⟨l, vs2, n, n.toNat, rfl, rfl, el2, ?_, k.nx _ _ _ ψ3 ⟨_, _, _, a3⟩⟩
  have en : n = ((n.toNat : Nat) : Int) := by omega
  rw [en]
  exact ix_nat (by rw [dpa_len dv2]; omega)
/-- for g in .. -/
theorem jc_for (hs : JI K W r wi fs) (hg : JG K W g js b) (hb : JS K W r X ts f) : JS K W r X (tFor wi g ts) (fun env P => fs (env.map hid) fun ds => forW b f ds env P) := fun env P φ h0 hc ms0 σ H D ⟨ms, ρ, os, a⟩ k =>
  hs _ _ φ _ _ σ H a.hidden _ fun ds J H1 ψ g1 x1 stm => by
    obtain ⟨G, Y, wk, st⟩ := stm
    have a1 := a.backH g1 x1
    have a2 : AtE K W r h0 (cut ms H1) ms0 env σ H1 := ⟨ms, ρ, os, a1.vs, a1.at_, Same.refl _, a1.ws0, a1.sub, a1.nd, a1.own, a1.out⟩
    refine for_it wk (fun i σ H => ∃ env', forW b f (ds.drop i) env' P ∧ AtE K W r h0 (cut ms H1) ms0 env' σ H) ⟨env, ψ, a2⟩ (fun i σ2 H2 _ ⟨env', _, ms2, ρ2, os2, c⟩ => (st ms2 H2 c.hc).1) (fun i x σ2 H2 H3 hi ⟨env', w, ms2, ρ2, os2, c⟩ y => ?_) fun σ2 H2 ⟨env', w, c⟩ => ?_
    · obtain ⟨s, hd⟩ := (st ms2 H2 c.hc).2 i x H3 c.at_.live y
      have o := hd ds[i] (List.getElem?_eq_getElem hi)
      rw [List.drop_eq_getElem_cons hi] at w
      obtain ⟨ps, w2, _, tg⟩ := hg _ _ w
      have c3 : AtE0 K W r h0 (cut ms H1) ms0 env' σ2 H3 ms2 ρ2 os2 := c.go (.of_same s) (c.at_.live.same s) (c.at_.same s).p
      refine c3.tg tg o fun σ4 c4 => hb _ _ w2 h0 (cut ms H1) ms0 σ4 H3 _ c4 ⟨fun e σ H q a => ⟨e, q, a⟩, fun d v H q a s od => k.rt d v H q a (a1.hc.trans s) od, fun e σ H q a => k.nx e σ H q (a.re a1.hc), fun e σ H q a => ⟨e, q, a⟩, fun c e σ H q a => k.ex c e σ H q (a.re a1.hc), fun c f d e σ H dx v q ⟨ms, ρ, os, h, nd, od⟩ => k.exf c f d e σ H dx v q ⟨ms, ρ, os, ⟨h.vs, h.at_, a1.hc.trans h.hc, h.ws0, h.sub, h.nd, h.own, h.out⟩, nd, od⟩, fun o v H q a s od => k.ro o v H q a (a1.hc.trans s) od⟩
    · rw [List.drop_length] at w
      exact k.nx _ _ _ w (c.re a1.hc)
theorem jc_while (ht : JT K W r t ft) (hb : JS K W r X ts f) : JS K W r X (tWhile t ts) (fun env P => whileW ft f env P) := fun env P φ h0 hc ms0 σ H D a k => by
  obtain ⟨I, ⟨m0, i0⟩, step⟩ := φ
  refine ⟨fun m σ H => ∃ e, I m e ∧ AtE K W r h0 hc ms0 e σ H, ⟨m0, env, i0, a⟩, fun m σ1 H1 ⟨e, ie, ms, ρ, os, c⟩ => ?_⟩
  refine ht _ _ (step m e ie) _ _ σ1 H1 c.lent _ fun c2 H2 ψ g x => ?_
  have c3 : AtE K W r h0 hc ms0 e σ1 H2 := ⟨_, _, _, c.backL g x⟩
  cases c2 with
  | true =>
    refine iteT ⟨fun σ H => ∃ e', (∃ m', m' < m ∧ I m' e') ∧ AtE K W r h0 hc ms0 e' σ H, fun σ' H' ⟨e', ⟨m', hm, i'⟩, a'⟩ => ⟨m', hm, e', i', a'⟩, ?_⟩
    exact hb _ _ ψ h0 hc ms0 σ1 H2 _ c3 ⟨fun e σ H q a => ⟨e, q, a⟩, k.rt, k.nx, fun e σ H q a => ⟨e, q, a⟩, k.ex, k.exf, k.ro⟩
  | false => exact iteF (k.nx _ _ _ ψ c3)
/-! raising -/
theorem jc_raise {C : Addr} (h : ∀ D σ H, X (.ref C) none σ H → ts D σ H) : JS K W r X ts (fun env P => P.ex C env) := fun env P φ h0 hc ms0 σ H D a k => h D σ H (k.ex C env σ H φ a)
def outK (o : Sc.Out) (A : PyData → Prop) (B : Addr → Prop) : Prop := match o with
  | .ok d => A d
  | .no c => B c
  | .fd _ _ _ => False
def outF (o : Sc.Out) (A : PyData → Prop) (B : Addr → Prop) (C : Addr → Str → PyData → Prop) : Prop := match o with
  | .ok d => A d
  | .no c => B c
  | .fd c f d => C c f d
variable {O : List PyData → Sc.Out → Prop}
theorem run_X (hE : ∀ c d σ H, X (.ref c) d σ H → Es σ (.ref c) d H) {h0 hc : Hp} {ms0 : List Addr} {env : List Va} {os : List (Addr × List PyData)} {P : Post} {D : Ends} {A : PyData → Prop} {Q : VK} (h : JA K W r n tA fA) (a : AtE0 K W r h0 hc ms0 env σ H ms ρ os) (k : EndsOk K W r X h0 hc ms0 P D) (φ : fA env fun ds => ∃ o, O ds o ∧ outF o A (fun c => P.ex c env) fun c f d => P.exf c f d env)
    (q : ∀ d v H', A d → AtE0 K W r h0 hc ms0 env σ H' ms ρ os → Dp K (cut (les os ms) H') v d → Q v H') : tCallS (Sc.spX K O) Es tA σ H Q :=
  h _ _ φ _ _ σ H a.lent _ fun ds vs H1 ψ g x o => by
    obtain ⟨_, out, ho, ψ⟩ := ψ
    refine ⟨les os ms, ds, out, g.live, o, ho, fun d e v H2 s2 o2 => ?_, fun c e H2 s2 => ?_, fun c f d e dx v H2 s2 z e1 o1 => ?_⟩
    · subst e
      exact q d v H2 ψ (a.backL (g.same s2) (x.trans (.of_same s2))) o2
    · subst e
      exact hE c none σ H2 (k.ex c env σ H2 ψ ⟨_, _, _, a.backL (g.same s2) (x.trans (.of_same s2))⟩)
    · subst e
      have a' := a.backL (g.same s2) (x.trans (.of_same s2))
      have hz := At.fresh (a.backL g x).at_ z
      exact hE c (some dx) σ H2 (k.exf c f d env σ H2 dx v ψ ⟨_, _, _, a', hz.2.1, o1⟩ hz.1 e1)
theorem jc_dropX (h : JA K W r n tA fA) (hE : ∀ c d σ H, X (.ref c) d σ H → Es σ (.ref c) d H) : JS K W r X (tDrop (tCallS (Sc.spX K O) Es tA)) (fun env P => fA env fun ds => ∃ o, O ds o ∧ outF o (fun _ => P.nx env) (fun c => P.ex c env) fun c f d => P.exf c f d env) := fun env P φ h0 hc ms0 σ H D ⟨ms, ρ, os, a⟩ k =>
  run_X (A := fun _ => P.nx env) hE h a k φ fun d v H' q a' _ => k.nx _ _ _ q ⟨_, _, _, a'⟩
theorem jc_retX (h : JA K W r n tA fA) (hE : ∀ c d σ H, X (.ref c) d σ H → Es σ (.ref c) d H) : JS K W r X (tRet (tCallS (Sc.spX K O) Es tA)) (fun env P => fA env fun ds => ∃ o, O ds o ∧ outF o P.rt (fun c => P.ex c env) fun c f d => P.exf c f d env) := fun env P φ h0 hc ms0 σ H D ⟨ms, ρ, os, a⟩ k =>
  run_X (A := P.rt) hE h a k φ fun d v H' q a' o => k.rt d v H' q a'.end_ a'.hcE (dp_mono (cut_sub a'.les_sub) _ _ o)
theorem jc_asgX (i : Nat) (h : JA K W r n tA fA) (hE : ∀ c d σ H, X (.ref c) d σ H → Es σ (.ref c) d H) : JS K W r X (tAsg (tCallS (Sc.spX K O) Es tA) (gName i)) (fun env P => fA env fun ds => ∃ o, O ds o ∧ outF o (fun d => noList d = true ∧ P.nx (env.set i (.dat d))) (fun c => P.ex c env) fun c f d => P.exf c f d env) := fun env P φ h0 hc ms0 σ H D ⟨ms, ρ, os, a⟩ k =>
  run_X (A := fun d => noList d = true ∧ P.nx (env.set i (.dat d))) hE h a k φ fun d v H' q a' o => by
    obtain ⟨os', a2, _⟩ := a'.set (a'.apart q.1 o) i
    exact k.nx _ _ _ q.2 ⟨_, _, _, a2⟩
/-- if not f(..): .. -/
theorem jc_unlessX (h : JA K W r n tA fA) (hE : ∀ c d σ H, X (.ref c) d σ H → Es σ (.ref c) d H) (h1 : JS K W r X ts f) (h2 : JS K W r X ts' f') : JS K W r X (tIfS (tNot (tB (tCallS (Sc.spX K O) Es tA))) ts ts') (fun env P => fA env fun ds => ∃ o, O ds o ∧ outF o (fun d => blK d fun b => ifK b (f' env P) (f env P)) (fun c => P.ex c env) fun c f d => P.exf c f d env) := fun env P φ h0 hc ms0 σ H D ⟨ms, ρ, os, a⟩ k =>
  run_X (A := fun d => blK d fun b => ifK b (f' env P) (f env P)) hE h a k φ fun d v H' q a' o => by
    obtain ⟨b, rfl, q⟩ := blK_of q
    cases o
    refine ⟨b, rfl, ?_⟩
    cases b with
    | true => exact iteF (h2 env P q h0 hc ms0 σ H' D ⟨_, _, _, a'⟩ k)
    | false => exact iteT (h1 env P q h0 hc ms0 σ H' D ⟨_, _, _, a'⟩ k)
end
/-! ### defs -/
def args (n : Nat) (ds : List PyData) : List Va := ds.map .dat ++ List.replicate (n - ds.length) .emp
section
variable {K : PySem.W.Frag} {r : Addr} {X : WX} {ms : List Addr} {H : Hp} {σ : St} {ts : TS} {f : FS} {ds : List PyData} {P : Program} {w : World} {mg : Str → Option Value} {base : Heap}
theorem vs_args : ∀ ds : List PyData, ∀ m, Vs r (ds.map .dat ++ List.replicate m .emp) (ds.map .dat ++ List.replicate m .emp) []
  | [], 0 => .nil
  | [], m + 1 => .emp (vs_args [] m)
  | d :: ds, m => .dat d (vs_args ds m)
theorem atE_start {W : Wd} {N : Nat} (h : At K W ms ⟨H, H⟩ (slots N ds) σ H) : AtE K W r H (cut ms H) ms (args N ds) σ H := ⟨ms, _, [], vs_args ds _, h, Same.refl _, h.sub, fun _ z => z, List.nodup_nil, (fun p hp => nomatch hp), (fun p hp => nomatch hp)⟩
theorem pureW {x qual : Str} {st : Stmt} {fa : Addr} {fd : FuncData} {N ps : List Str} {k : Nat} {G : List PyData → PyData → Prop} (F : Fun K x qual st fa fd) (S : FnScope N ps (defScope st)) (hG : ∀ ds d, G ds d → ds.length = ps.length)
    (hb : ∀ (cdv : Value) (A : Around) (outer : List Env) (s : Shared) (H : Hp) (E : XK), Room k (A.deeper (envOfC qual (defScope st) s.heap.objs.size fa cdv)) →
      ∃ t f, PSs (cxOf CX0 P w K mg base N qual (defScope st) fa cdv A outer s H E).nox (defBody st) t ∧ JS K W0 0 (fun _ _ _ _ => False) t f ∧ ∀ ds d, G ds d → f (args N.length ds) { nx := fun _ => d = .none, rt := (· = d) }) : FnOk P w K mg base CX0 (k + 1) fa fd ps (spP K G) :=
  pureOk F S hG fun cdv A outer s H E hr => by
    obtain ⟨t, f, ht, hj, hf⟩ := hb cdv A outer s H E hr
    refine ⟨t, ht, fun ds d g ms σ H Q h k => ?_⟩
    exact hj _ _ (hf ds d g) H (cut ms H) ms σ H _ (atE_start h) ⟨fun e σ H' q ⟨_, _, _, a⟩ => by subst q; exact k .non H' (a.end_.un2 a.hcE) .non, fun d' v H' q a s o => by subst q; exact k v H' (a.un2 s) o, fun e σ H' q a => False.elim q, fun e σ H' q a => False.elim q, fun c e σ H' q a => False.elim q, fun c f d e σ H' dx v q => False.elim q, fun o v H' q => False.elim q⟩
theorem raiseW {x qual : Str} {st : Stmt} {fa : Addr} {fd : FuncData} {N ps : List Str} {k : Nat} {O : List PyData → Sc.Out → Prop} (F : Fun K x qual st fa fd) (S : FnScope N ps (defScope st)) (hG : ∀ ds o, O ds o → ds.length = ps.length)
    (hb : ∀ (cdv : Value) (A : Around) (outer : List Env) (s : Shared) (H : Hp) (E : XK), Room k (A.deeper (envOfC qual (defScope st) s.heap.objs.size fa cdv)) →
      ∃ t f, PSs (cxOf (L2.CX P w) P w K mg base N qual (defScope st) fa cdv A outer s H E) (defBody st) t ∧ JS K W0 0 (fun c d _ H => E c d H) t f ∧ ∀ ds o, O ds o → f (args N.length ds) { nx := fun _ => o = .ok .none, rt := fun d => o = .ok d, ex := fun c _ => o = .no c, exf := fun c f d _ => o = .fd c f d }) : FnOk P w K mg base (L2.CX P w) (k + 1) fa fd ps (Sc.spX K O) :=
  Sc.raiseOk F S hG fun cdv A outer s H E hr => by
    obtain ⟨t, f, ht, hj, hf⟩ := hb cdv A outer s H E hr
    refine ⟨t, ht, fun ds o g ms σ H Q h kq kn kf => ?_⟩
    exact hj _ _ (hf ds o g) H (cut ms H) ms σ H _ (atE_start h) ⟨fun e σ H' q ⟨_, _, _, a⟩ => kq _ q .non H' (a.end_.un2 a.hcE) .non, fun d' v H' q a s o => kq d' q v H' (a.un2 s) o, fun e σ H' q a => False.elim q, fun e σ H' q a => False.elim q, fun c e σ H' q ⟨_, _, _, a⟩ => kn c q H' a.end_.xw.same, fun c f d e σ H' dx v q ⟨_, _, _, a, _, o1⟩ z e1 => kf c f d q dx v H' a.end_.xw.same z e1 (dp_mono (cut_sub a.les_sub) _ _ o1), fun o v H' q => False.elim q⟩
theorem drawW {α : Type} {U : α → Wd} {rt : α → Addr} {x qual : Str} {st : Stmt} {fa : Addr} {fd : FuncData} {N ps : List Str} {k : Nat} {Pre : List PyData → Prop} {Φ : List PyData → PyData → Prop} (F : Fun K x qual st fa fd) (S : FnScope N ps (defScope st)) (hG : ∀ ds, Pre ds → ds.length + 1 = ps.length)
    (hb : ∀ (cdv : Value) (A : Around) (outer : List Env) (s : Shared) (H : Hp) (E : XK), Room k (A.deeper (envOfC qual (defScope st) s.heap.objs.size fa cdv)) →
      ∃ t, PSs (cxOf CX0 P w K mg base N qual (defScope st) fa cdv A outer s H E).nox (defBody st) t ∧ ∀ B : α, ∃ f, JS K (U B) (rt B) (fun _ _ _ _ => False) t f ∧ ∀ ds, Pre ds → f (.src :: (ds.map .dat ++ List.replicate (N.length - (ds.length + 1)) .emp)) { nx := fun _ => Φ ds .none, rt := Φ ds }) : FnOk P w K mg base CX0 (k + 1) fa fd ps (spU K U rt Pre Φ) :=
  drawOkU F S hG fun cdv A outer s H E hr => by
    obtain ⟨t, ht, hx⟩ := hb cdv A outer s H E hr
    refine ⟨t, ht, fun ds pre B ms σ H Q h k => ?_⟩
    obtain ⟨f, hj, hf⟩ := hx B
    have a : AtE K (U B) (rt B) H (cut ms H) ms (.src :: (ds.map .dat ++ List.replicate (N.length - (ds.length + 1)) .emp)) σ H := ⟨ms, _, [], .src (vs_args ds _), h, Same.refl _, h.sub, fun _ z => z, List.nodup_nil, (fun p hp => nomatch hp), (fun p hp => nomatch hp)⟩
    exact hj _ _ (hf ds pre) H (cut ms H) ms σ H _ a ⟨fun e σ H' q ⟨_, _, _, a⟩ => k .none .non H' q (a.end_.un2 a.hcE) .non, fun d' v H' q a s o => k d' v H' q (a.un2 s) o, fun e σ H' q a => False.elim q, fun e σ H' q a => False.elim q, fun c e σ H' q a => False.elim q, fun c f d e σ H' dx v q => False.elim q, fun o v H' q => False.elim q⟩
end
/-! ### loops by a word -/
theorem forW_inv {b : FG} {body : FS} {P : Post} (I : Nat → List Va → Prop) : ∀ {ds : List PyData} {env : List Va} {i : Nat}, I i env → (∀ j d, ds[j]? = some d → ∀ e, I (i + j) e → ∀ Z : List Va → Prop, (∀ e', I (i + j + 1) e' → Z e') → b d fun ps => body (setV e ps) { nx := Z, rt := P.rt, bk := P.nx, ct := Z, ex := P.ex, exf := P.exf, ro := P.ro }) →
    (∀ e, I (i + ds.length) e → P.nx e) → forW b body ds env P
  | [], env, i, h, _, hd => hd env h
  | d :: ds, env, i, h, hs, hd => hs 0 d rfl env h _ fun x hx => forW_inv I (i := i + 1) hx (fun j d' hj e ie => by have := hs (j + 1) d' hj e (by rw [show i + (j + 1) = i + 1 + j by omega]; exact ie); rwa [show i + (j + 1) + 1 = i + 1 + j + 1 by omega] at this) (fun e ie => hd e (by rw [List.length_cons, show i + (ds.length + 1) = i + 1 + ds.length by omega]; exact ie))
theorem forW_of {b : FG} {body : FS} {P : Post} {ds : List PyData} {env : List Va} (I : Nat → List Va → Prop) (h : I 0 env) (hs : ∀ j d, ds[j]? = some d → ∀ e, I j e → ∀ Z : List Va → Prop, (∀ e', I (j + 1) e' → Z e') → b d fun ps => body (setV e ps) { nx := Z, rt := P.rt, bk := P.nx, ct := Z, ex := P.ex, exf := P.exf, ro := P.ro })
    (hd : ∀ e, I ds.length e → P.nx e) : forW b body ds env P := forW_inv I (i := 0) h (fun j d hj e ie Z hz => hs j d hj e (by rwa [Nat.zero_add] at ie) Z fun e' i' => hz e' (by rwa [Nat.zero_add])) fun e ie => hd e (by rwa [Nat.zero_add] at ie)
end Wp

/-! Wp, 5: an empty dict among the arguments. -/
namespace Wp
open PySem L2 Fw
open PyProof.Rows (envOfC)
/-- a world in which an empty dict stands -/
def WD (W : Wd) (od : Option Addr) : Wd := { ws := W.ws, P := W.P, sup := W.sup, C := fun H => W.C H ∧ ∀ D, od = some D → H D = some (.dK []), mono := fun H H' s h => ⟨W.mono H H' s h.1, fun D e => s _ _ (h.2 D e)⟩ }
inductive Ag (K : PySem.W.Frag) (H : Hp) (od : Option Addr) : V → Option PyData → Prop
  | dat {v : V} {d : PyData} : Dp K H v d → Ag K H od v (some d)
  | dct {D : Addr} : od = some D → Ag K H od (.ref D) none
inductive AgAll (K : PySem.W.Frag) (H : Hp) (od : Option Addr) : List V → List (Option PyData) → Prop
  | nil : AgAll K H od [] []
  | cons {v : V} {vs : List V} {a : Option PyData} {as : List (Option PyData)} : Ag K H od v a → AgAll K H od vs as → AgAll K H od (v :: vs) (a :: as)
abbrev FY := List Va → (List (Option PyData) → Prop) → Prop
def JY (K : PySem.W.Frag) (W : Wd) (r : Addr) (od : Option Addr) (n : Nat) (ta : TA) (f : FY) : Prop := ∀ env Φ, f env Φ → ∀ (ms : List Addr) (B : Bs) (σ : St) (H : Hp), At K (WD W od) ms B (env.map (low r)) σ H → ∀ Q : List V → Hp → Prop, (∀ as vs H', as.length = n → Φ as → At K (WD W od) ms B (env.map (low r)) σ H' → XW W.ws H H' → AgAll K (cut ms H') od vs as → Q vs H') → ta σ H Q
def yK (od : Option Addr) (env : List Va) (i : Nat) (Φ : Option PyData → Prop) : Prop := match env[i]? with
  | some (.dat d) => Φ (some d)
  | some (.obj D) => od = some D ∧ Φ none
  | _ => False
def spY (K : PySem.W.Frag) (O : List (Option PyData) → Sc.Out → Prop) : Sp := fun vs H Q E => ∃ (ms : List Addr) (od : Option Addr) (as : List (Option PyData)) (o : Sc.Out), Live ms H ∧ (∀ D, od = some D → cut ms H D = some (.dK [])) ∧ AgAll K (cut ms H) od vs as ∧ O as o ∧
  (∀ d, o = .ok d → ∀ v H', Same H H' → Dp K (cut ms H') v d → Q v H') ∧ ∀ c, o = .no c → ∀ H', Same H H' → E (.ref c) none H'
def yv (od : Option Addr) : Option PyData → Va
  | some d => .dat d
  | none => .obj (od.getD 0)
section
variable {K : PySem.W.Frag} {W : Wd} {r : Addr} {od : Option Addr} {X : WX} {ms : List Addr} {B : Bs} {H H' : Hp} {ρ : List Sl} {σ : St} {ta te tc td : TE} {tA : TA} {ts ts' : TS} {fa fc : FE} {fA : FA} {fy : FY} {f f' : FS} {n i j : Nat} {E : XK} {Es : St → XK}
theorem Ag.mono {v : V} {a : Option PyData} (s : Same H H') (h : Ag K H od v a) : Ag K H' od v a := by
  cases h with
  | dat o => exact .dat (dp_mono s _ _ o)
  | dct e => exact .dct e
theorem AgAll.mono (s : Same H H') : ∀ {vs : List V} {as : List (Option PyData)}, AgAll K H od vs as → AgAll K H' od vs as
  | _, _, .nil => .nil
  | _, _, .cons h t => .cons (h.mono s) (AgAll.mono s t)
theorem AgAll.len : ∀ {vs : List V} {as : List (Option PyData)}, AgAll K H od vs as → vs.length = as.length
  | _, _, .nil => rfl
  | _, _, .cons _ t => by rw [List.length_cons, List.length_cons, AgAll.len t]
theorem jy_nil : JY K W r od 0 tNil (fun _ Φ => Φ []) := fun env Φ φ ms B σ H a Q q => q [] [] H rfl φ a (.refl H) .nil
theorem jy_cons (h : JE K (WD W od) r te fa) (t : JY K W r od n tA fy) : JY K W r od (n + 1) (tCons te tA) (fun env Φ => fa env fun d => fy env fun as => Φ (some d :: as)) := fun env Φ φ ms B σ H a Q q =>
  h env _ φ ms B σ H a _ fun s v H1 ψ h1 x1 o1 => by
    obtain ⟨d, rfl, ψ⟩ := ψ
    exact t env _ ψ ms B σ H1 h1 _ fun as vs H2 el ψ2 h2 x2 o2 => q _ _ H2 (by rw [List.length_cons, el]) ψ2 h2 (x1.trans x2) (.cons (.dat (dp_mono (x2.cut h2.sub) _ _ o1)) o2)
theorem yK_of {env : List Va} {Φ : Option PyData → Prop} (h : yK od env i Φ) : (∃ d, env[i]? = some (.dat d) ∧ Φ (some d)) ∨ ∃ D, env[i]? = some (.obj D) ∧ od = some D ∧ Φ none := by
  unfold yK at h
  split at h
  · exact .inl ⟨_, by assumption, h⟩
  · exact .inr ⟨_, by assumption, h.1, h.2⟩
  · exact False.elim h
theorem jy_var (i : Nat) (t : JY K W r od n tA fy) : JY K W r od (n + 1) (tCons (tVar i) tA) (fun env Φ => yK od env i fun a => fy env fun as => Φ (a :: as)) := fun env Φ φ ms B σ H a Q q => by
  rcases yK_of φ with ⟨d, e, φ⟩ | ⟨D, e, eD, φ⟩
  · have em : (env.map (low r))[i]? = some (.dat d) := by rw [List.getElem?_map, e]; rfl
    obtain ⟨v, ev, ov⟩ := a.env.get em (by intro q; cases q)
    exact ⟨v, ev, t env _ φ ms B σ H a _ fun as vs H2 el ψ2 h2 x2 o2 => q _ _ H2 (by rw [List.length_cons, el]) ψ2 h2 x2 (.cons (.dat (dp_mono (x2.cut h2.sub) _ _ ov)) o2)⟩
  · have em : (env.map (low r))[i]? = some (.raw (.ref D)) := by rw [List.getElem?_map, e]; rfl
    obtain ⟨v, ev, ov⟩ := a.env.get em (by intro q; cases q)
    obtain rfl : v = .ref D := ov
    exact ⟨_, ev, t env _ φ ms B σ H a _ fun as vs H2 el ψ2 h2 x2 o2 => q _ _ H2 (by rw [List.length_cons, el]) ψ2 h2 x2 (.cons (.dct eD) o2)⟩
def tupY : Option PyData → Bool
  | some d => pTup d
  | none => false
theorem je_isTupY (i : Nat) : JE K (WD W od) r (tCB (rIsi K) (tCons (tVar i) (tCons (tC (.ty "tuple")) tNil))) (fun env Φ => yK od env i fun a => Φ (.bool (tupY a))) := fun env Φ φ => by
  rcases yK_of φ with ⟨d, e, φ⟩ | ⟨D, e, eD, φ⟩
  · exact je_isTup (K := K) (W := WD W od) (r := r) (je_var i) env Φ (show varK env i _ by unfold varK; rw [e]; exact φ)
  · intro ms B σ H g Q q
    have em : (env.map (low r))[i]? = some (.raw (.ref D)) := by rw [List.getElem?_map, e]; rfl
    obtain ⟨v, ev, ov⟩ := g.env.get em (by intro q; cases q)
    obtain rfl : v = .ref D := ov
    have hD : H D = some (.dK []) := cut_le _ _ (g.c.2 D eD)
    exact ⟨_, ev, .ref D, .ty "tuple", .type "dict", .type "tuple", false, rfl, .ty "tuple", .base (.dK hD), kit_ty kb_dict_tuple, q _ _ H ⟨_, rfl, φ⟩ g (.refl H) (.bl false)⟩
variable {O : List (Option PyData) → Sc.Out → Prop}
theorem run_Y (hE : ∀ c d σ H, X (.ref c) d σ H → Es σ (.ref c) d H) {h0 hc : Hp} {ms0 : List Addr} {env : List Va} {os : List (Addr × List PyData)} {P : Post} {D : Ends} {A : PyData → Prop} {Q : VK} (h : JY K W r od n tA fy) (a : AtE0 K (WD W od) r h0 hc ms0 env σ H ms ρ os) (k : EndsOk K (WD W od) r X h0 hc ms0 P D) (φ : fy env fun as => ∃ o, O as o ∧ outK o A fun c => P.ex c env)
    (q : ∀ d v H', A d → AtE0 K (WD W od) r h0 hc ms0 env σ H' ms ρ os → Dp K (cut (les os ms) H') v d → Q v H') : tCallS (spY K O) Es tA σ H Q :=
  h _ _ φ _ _ σ H a.lent _ fun as vs H1 _ ψ g x o => by
    obtain ⟨out, ho, ψ⟩ := ψ
    refine ⟨les os ms, od, as, out, g.live, g.c.2, o, ho, fun d e v H2 s2 o2 => ?_, fun c e H2 s2 => ?_⟩
    · subst e
      exact q d v H2 ψ (a.backL (g.same s2) (x.trans (.of_same s2))) o2
    · subst e
      exact hE c none σ H2 (k.ex c env σ H2 ψ ⟨_, _, _, a.backL (g.same s2) (x.trans (.of_same s2))⟩)
theorem jc_dropY (h : JY K W r od n tA fy) (hE : ∀ c d σ H, X (.ref c) d σ H → Es σ (.ref c) d H) : JS K (WD W od) r X (tDrop (tCallS (spY K O) Es tA)) (fun env P => fy env fun ds => ∃ o, O ds o ∧ outK o (fun _ => P.nx env) fun c => P.ex c env) := fun env P φ h0 hc ms0 σ H D ⟨ms, ρ, os, a⟩ k =>
  run_Y (A := fun _ => P.nx env) hE h a k φ fun d v H' q a' _ => k.nx _ _ _ q ⟨_, _, _, a'⟩
theorem jc_retY (h : JY K W r od n tA fy) (hE : ∀ c d σ H, X (.ref c) d σ H → Es σ (.ref c) d H) : JS K (WD W od) r X (tRet (tCallS (spY K O) Es tA)) (fun env P => fy env fun ds => ∃ o, O ds o ∧ outK o P.rt fun c => P.ex c env) := fun env P φ h0 hc ms0 σ H D ⟨ms, ρ, os, a⟩ k =>
  run_Y (A := P.rt) hE h a k φ fun d v H' q a' o => k.rt d v H' q a'.end_ a'.hcE (dp_mono (cut_sub a'.les_sub) _ _ o)
theorem jc_unlessY (h : JY K W r od n tA fy) (hE : ∀ c d σ H, X (.ref c) d σ H → Es σ (.ref c) d H) (h1 : JS K (WD W od) r X ts f) (h2 : JS K (WD W od) r X ts' f') : JS K (WD W od) r X (tIfS (tNot (tB (tCallS (spY K O) Es tA))) ts ts') (fun env P => fy env fun ds => ∃ o, O ds o ∧ outK o (fun d => blK d fun b => ifK b (f' env P) (f env P)) fun c => P.ex c env) := fun env P φ h0 hc ms0 σ H D ⟨ms, ρ, os, a⟩ k =>
  run_Y (A := fun d => blK d fun b => ifK b (f' env P) (f env P)) hE h a k φ fun d v H' q a' o => by
    obtain ⟨b, rfl, q⟩ := blK_of q
    cases o
    refine ⟨b, rfl, ?_⟩
    cases b with
    | true => exact iteF (h2 env P q h0 hc ms0 σ H' D ⟨_, _, _, a'⟩ k)
    | false => exact iteT (h1 env P q h0 hc ms0 σ H' D ⟨_, _, _, a'⟩ k)
theorem je_callY (h : JY K W r od n tA fy) : JE K (WD W od) r (tCall (spY K O) [] E tA) (fun env Φ => fy env fun as => ∃ d, O as (.ok d) ∧ Φ d) := fun env Φ φ ms B σ H a Q q =>
  h _ _ φ ms B σ H a _ fun as vs H1 _ ψ h1 x1 o1 => by
    obtain ⟨d, ho, ψ⟩ := ψ
    show spY K O (vs ++ []) H1 Q E
    rw [List.append_nil]
    exact ⟨ms, od, as, .ok d, h1.live, h1.c.2, o1, ho, fun d' e v H2 s2 o2 => by cases e; exact q (.dat d) v H2 ⟨d, rfl, ψ⟩ (h1.same s2) (x1.trans (.of_same s2)) o2, fun c e => nomatch e⟩
/-- in any world, all arguments data -/
theorem je_callYA (h : JA K W r n tA fA) : JE K W r (tCall (spY K O) [] E tA) (fun env Φ => fA env fun ds => ∃ d, O (ds.map some) (.ok d) ∧ Φ d) := fun env Φ φ ms B σ H a Q q =>
  h _ _ φ ms B σ H a _ fun ds vs H1 ψ h1 x1 o1 => by
    obtain ⟨_, d, ho, ψ⟩ := ψ
    show spY K O (vs ++ []) H1 Q E
    rw [List.append_nil]
    refine ⟨ms, none, ds.map some, .ok d, h1.live, fun D e => (by cases e), ?_, ho, fun d' e v H2 s2 o2 => by cases e; exact q (.dat d) v H2 ⟨d, rfl, ψ⟩ (h1.same s2) (x1.trans (.of_same s2)) o2, fun c e => nomatch e⟩
    exact ags o1
where
  ags : ∀ {vs : List V} {ds : List PyData} {H : Hp}, DpAll K H vs ds → AgAll K H none vs (ds.map some)
    | _, [], _, h => by cases h; exact .nil
    | _, d :: ds, _, h => by cases h with | cons h1 h2 => exact .cons (.dat h1) (ags h2)
/-! a list of data and an empty dict at its end, one of which is taken -/
def JM (K : PySem.W.Frag) (W : Wd) (r : Addr) (n : Nat) (ta : TA) (f : FA) : Prop := ∀ env Φ, f env Φ → ∀ (ms : List Addr) (B : Bs) (σ : St) (H : Hp), At K W ms B (env.map (low r)) σ H → ∀ Q : List V → Hp → Prop, (∀ ds vs D H', ds.length = n → Φ ds → At K W ms B (env.map (low r)) σ H' → XW W.ws H H' → DpAll K (cut ms H') vs ds → H' D = some (.dK []) → D ∉ ms → Q (vs ++ [.ref D]) H') → ta σ H Q
theorem jm_last : JM K W r 0 (tCons tDNewK tNil) (fun _ Φ => Φ []) := fun env Φ φ ms B σ H a Q q D hD => q [] [] D _ rfl φ (a.same (same_put hD)) (.of_same (same_put hD)) .nil upd_same (a.fresh hD).2.1
theorem jm_cons (h : JE K W r te fa) (t : JM K W r n tA fA) : JM K W r (n + 1) (tCons te tA) (fun env Φ => fa env fun d => fA env fun ds => Φ (d :: ds)) := fun env Φ φ ms B σ H a Q q =>
  h env _ φ ms B σ H a _ fun s v H1 ψ h1 x1 o1 => by
    obtain ⟨d, rfl, ψ⟩ := ψ
    exact t env _ ψ ms B σ H1 h1 _ fun ds vs D H2 el ψ2 h2 x2 o2 eD nD => q (d :: ds) (v :: vs) D H2 (by rw [List.length_cons, el]) ψ2 h2 (x1.trans x2) (.cons (dp_mono (x2.cut h2.sub) _ _ o1) o2) eD nD
theorem at_wd {D : Addr} (h : At K W ms B ρ σ H) (e : H D = some (.dK [])) (n : D ∉ ms) : At K (WD W (some D)) ms B ρ σ H := ⟨h.sub, h.live, h.env, h.p, h.xw, h.st, h.c, fun D' q => by cases q; rw [cut_out n]; exact e⟩
theorem at_un (h : At K (WD W od) ms B ρ σ H) : At K W ms B ρ σ H := ⟨h.sub, h.live, h.env, h.p, h.xw, h.st, h.c.1⟩
theorem atE_un {h0 hc : Hp} {ms0 : List Addr} {env : List Va} : AtE K (WD W od) r h0 hc ms0 env σ H → AtE K W r h0 hc ms0 env σ H
  | ⟨ms, ρ, os, h⟩ => ⟨ms, ρ, os, h.vs, at_un h.at_, h.hc, h.ws0, h.sub, h.nd, fun p hp => (by have o := h.own p hp; exact ⟨o.mem, o.nws, o.h0, o.val⟩), h.out⟩
theorem endsOk_wd {h0 hc : Hp} {ms0 : List Addr} {P : Post} {D : Ends} (k : EndsOk K W r X h0 hc ms0 P D) : EndsOk K (WD W od) r X h0 hc ms0 P D := ⟨fun e σ H q a => k.nx e σ H q (atE_un a), fun d v H q a s o => k.rt d v H q (at_un a) s o, fun e σ H q a => k.bk e σ H q (atE_un a), fun e σ H q a => k.ct e σ H q (atE_un a), fun c e σ H q a => k.ex c e σ H q (atE_un a), fun c f d e σ H dx v q ⟨ms, ρ, os, h, nd, od⟩ => k.exf c f d e σ H dx v q ⟨ms, ρ, os, ⟨h.vs, at_un h.at_, h.hc, h.ws0, h.sub, h.nd, fun p hp => (by have o := h.own p hp; exact ⟨o.mem, o.nws, o.h0, o.val⟩), h.out⟩, nd, od⟩, fun o v H q a s od => k.ro o v H q (at_un a) s od⟩
theorem Vs.emp_ {env : List Va} {ρ : List Sl} {os : List (Addr × List PyData)} (h : Vs r env ρ os) : ∀ i : Nat, ∃ os', Vs r (env.set i .emp) (ρ.set i .emp) os' ∧ os'.Sublist os := by
  induction h with
  | nil => exact fun i => ⟨[], .nil, .refl _⟩
  | emp h ih => intro i; cases i with
    | zero => exact ⟨_, .emp h, .refl _⟩
    | succ i => obtain ⟨os', a, b⟩ := ih i; exact ⟨os', .emp a, b⟩
  | dat e h ih => intro i; cases i with
    | zero => exact ⟨_, .emp h, .refl _⟩
    | succ i => obtain ⟨os', a, b⟩ := ih i; exact ⟨os', .dat e a, b⟩
  | src h ih => intro i; cases i with
    | zero => exact ⟨_, .emp h, .refl _⟩
    | succ i => obtain ⟨os', a, b⟩ := ih i; exact ⟨os', .src a, b⟩
  | obj a0 h ih => intro i; cases i with
    | zero => exact ⟨_, .emp h, .refl _⟩
    | succ i => obtain ⟨os', a, b⟩ := ih i; exact ⟨os', .obj a0 a, b⟩
  | own l ds h ih => intro i; cases i with
    | zero => exact ⟨_, .emp h, List.sublist_cons_self _ _⟩
    | succ i => obtain ⟨os', a, b⟩ := ih i; exact ⟨_, .own l ds a, b.cons₂ _⟩
theorem Vs.obj_ {env : List Va} {ρ : List Sl} {os : List (Addr × List PyData)} (D : Addr) (h : Vs r env ρ os) : ∀ i : Nat, ∃ os', Vs r (env.set i (.obj D)) (ρ.set i (.raw (.ref D))) os' ∧ os'.Sublist os := by
  induction h with
  | nil => exact fun i => ⟨[], .nil, .refl _⟩
  | emp h ih => intro i; cases i with
    | zero => exact ⟨_, .obj D h, .refl _⟩
    | succ i => obtain ⟨os', a, b⟩ := ih i; exact ⟨os', .emp a, b⟩
  | dat e h ih => intro i; cases i with
    | zero => exact ⟨_, .obj D h, .refl _⟩
    | succ i => obtain ⟨os', a, b⟩ := ih i; exact ⟨os', .dat e a, b⟩
  | src h ih => intro i; cases i with
    | zero => exact ⟨_, .obj D h, .refl _⟩
    | succ i => obtain ⟨os', a, b⟩ := ih i; exact ⟨os', .src a, b⟩
  | obj a0 h ih => intro i; cases i with
    | zero => exact ⟨_, .obj D h, .refl _⟩
    | succ i => obtain ⟨os', a, b⟩ := ih i; exact ⟨os', .obj a0 a, b⟩
  | own l ds h ih => intro i; cases i with
    | zero => exact ⟨_, .obj D h, List.sublist_cons_self _ _⟩
    | succ i => obtain ⟨os', a, b⟩ := ih i; exact ⟨_, .own l ds a, b.cons₂ _⟩
theorem envOk_len {H : Hp} : ∀ {ρ : List Sl} {σ : St}, EnvOk K H ρ σ → σ.length = ρ.length
  | _, _, .nil => rfl
  | _, _, .cons _ t => by rw [List.length_cons, List.length_cons, envOk_len t]
theorem vs_len {env : List Va} {ρ : List Sl} {os : List (Addr × List PyData)} (h : Vs r env ρ os) : ρ.length = env.length := by
  induction h with
  | nil => rfl
  | _ => simp_all
theorem low_emp {env : List Va} : (env.set i .emp).map (low r) = (env.map (low r)).set i .emp := by rw [List.map_set]; rfl
theorem hid_emp {env : List Va} : (env.set i .emp).map hid = (env.map hid).set i .emp := by rw [List.map_set]; rfl
theorem jc_mix {fr : Option Addr → FS} (i j : Nat) (hn : n < 1000) (h : JM K W r n tA fA) (hc : JE K W r tc fc) (hr : ∀ od, JS K (WD W od) r X ts (fr od)) : JS K W r X (tSeq (tAsg (tLst tA) (gName i)) (tSeq (tAsg (tOp (rIxL K) (tVar i) tc) (gName j)) ts))
    (fun env P => i < env.length ∧ fA (env.map hid) fun ds => fc ((env.map hid).set i .emp) fun z => intK z fun n => (0 ≤ n ∧ n ≤ (ds.length : Int)) ∧ (∀ d, ds[n.toNat]? = some d → ∀ D : Addr, fr (some D) ((env.set i .emp).set j (.dat d)) P) ∧ (n = (ds.length : Int) → ∀ D : Addr, fr (some D) ((env.set i .emp).set j (.obj D)) P)) := fun env P ⟨hl, φ⟩ h0 hc0 ms0 σ H D ⟨ms, ρ, os, a⟩ k =>
  h _ _ φ _ _ σ H a.hidden _ fun ds vs Da H1 el ψ g x o eD nD => by
    have lv := dpa_len o
    refine ⟨by rw [List.length_append, lv, el]; exact Nat.le_trans (show n + 1 ≤ 1000 by omega) (by decide), fun p hp => ?_⟩
    have sp := same_put (o := .lst (vs ++ [.ref Da])) hp
    have g2 := g.same sp
    have x2 := x.trans (.of_same (ws := W.ws) sp)
    have a2 := a.backH g2 x2
    have e2 : upd H1 p (.lst (vs ++ [.ref Da])) p = some (.lst (vs ++ [.ref Da])) := upd_same
    have eD2 := sp _ _ eD
    have o2 : DpAll K (cut ms (upd H1 p (.lst (vs ++ [.ref Da])))) vs ds := dpa_mono (cut_put (.inr hp)) _ _ o
    generalize upd H1 p (.lst (vs ++ [.ref Da])) = H2 at g2 x2 a2 e2 eD2 o2
    obtain ⟨os1, v1, sl⟩ := a.vs.emp_ i
    have b2 : AtE0 K W r h0 hc0 ms0 (env.set i .emp) (σ.set i (some (.ref p))) H2 ms (ρ.set i .emp) os1 := ⟨v1, ⟨a2.at_.sub, a2.at_.live, EnvOk.set (s := .emp) trivial i a2.at_.env, a2.at_.p, a2.at_.xw, a2.at_.st, a2.at_.c⟩, a2.hc, a2.ws0, a2.sub, (sl.map _).nodup a2.nd, fun p hp => a2.own p (sl.subset hp), fun p hp => a2.out p (sl.subset hp)⟩
    have b2h := b2.hidden
    have li : i < σ.length := by rw [envOk_len a.at_.env, vs_len a.vs]; exact hl
    show tAsg (tOp (rIxL K) (tVar i) tc) (gName j) { D with nx := ts D } (σ.set i (some (.ref p))) H2
    rw [← hid_emp] at ψ
    · refine ⟨.ref p, List.getElem?_set_self li, hc _ _ ψ _ _ _ H2 b2h _ fun s w H3 ψ3 g3 x3 o3 => ?_⟩
      obtain ⟨z, rfl, ψ3⟩ := ψ3
      obtain ⟨m, rfl, hm, k1, k2⟩ := intK_of ψ3
      cases o3
      have b3 := b2.backH g3 x3
      have pw : p ∉ W.ws := fun z => g.live.fresh hp (g.sub p z)
      have dw : Da ∉ W.ws := fun z => nD (g.sub Da z)
      have e3 := x3 _ _ pw e2
      have eD3 := x3 _ _ dw eD2
      have o3 : DpAll K (cut ms H3) vs ds := dpa_mono (x3.cut b2.at_.sub) _ _ o2
      have lvs : (vs ++ [V.ref Da]).length = ds.length + 1 := by rw [List.length_append, lv]; rfl
      obtain ⟨q, rfl⟩ : ∃ q : Nat, m = (q : Int) := ⟨m.toNat, by omega⟩
      rw [Int.toNat_natCast] at k1
      have fin : ∀ {env' : List Va} {ρ' : List Sl} {os' : List (Addr × List PyData)} {σ' : St}, AtE0 K W r h0 hc0 ms0 env' σ' H3 ms ρ' os' → fr (some Da) env' P → ts D σ' H3 := fun {env' ρ' os' σ'} a4 q4 =>
        hr (some Da) env' P q4 h0 hc0 ms0 σ' H3 D ⟨ms, ρ', os', a4.vs, at_wd a4.at_ eD3 nD, a4.hc, a4.ws0, a4.sub, a4.nd, fun p hp => (by have o := a4.own p hp; exact ⟨o.mem, o.nws, o.h0, o.val⟩), a4.out⟩ (endsOk_wd k)
      by_cases hq : q < ds.length
      · have ed : ds[q]? = some ds[q] := List.getElem?_eq_getElem hq
        obtain ⟨v, ev, ov⟩ := dpa_get' o3 ed
        refine ⟨p, _, (q : Int), v, rfl, rfl, SqL.of e3, ?_, ?_⟩
        · unfold atI
          rw [ix_nat (by rw [lvs]; omega)]
          show (vs ++ [V.ref Da])[q]? = some v
          rw [List.getElem?_append_left (by rw [lv]; exact hq)]
          exact ev
        · obtain ⟨os4, a4, _⟩ := b3.set ov j
          exact fin a4 (k1 _ ed Da)
      · obtain rfl : q = ds.length := by omega
        refine ⟨p, _, (ds.length : Int), .ref Da, rfl, rfl, SqL.of e3, ?_, ?_⟩
        · unfold atI
          rw [ix_nat (by rw [lvs]; omega)]
          show (vs ++ [V.ref Da])[ds.length]? = some (.ref Da)
          rw [List.getElem?_append_right (by rw [lv]; exact Nat.le_refl _), lv, Nat.sub_self]
          rfl
        · obtain ⟨os4, v4, sl4⟩ := b3.vs.obj_ Da j
          have a4 : AtE0 K W r h0 hc0 ms0 ((env.set i .emp).set j (.obj Da)) ((σ.set i (some (.ref p))).set j (some (.ref Da))) H3 ms ((ρ.set i .emp).set j (.raw (.ref Da))) os4 := ⟨v4, ⟨b3.at_.sub, b3.at_.live, EnvOk.set (s := .raw (.ref Da)) (o := some (.ref Da)) rfl j b3.at_.env, b3.at_.p, b3.at_.xw, b3.at_.st, b3.at_.c⟩, b3.hc, b3.ws0, b3.sub, (sl4.map _).nodup b3.nd, fun p hp => b3.own p (sl4.subset hp), fun p hp => b3.out p (sl4.subset hp)⟩
          exact fin a4 (k2 rfl Da)
end
/-! ### defs -/
def argsY (od : Option Addr) (n : Nat) (as : List (Option PyData)) : List Va := as.map (yv od) ++ List.replicate (n - as.length) .emp
def slotsY (od : Option Addr) (n : Nat) (as : List (Option PyData)) : List Sl := as.map (fun a => low 0 (yv od a)) ++ List.replicate (n - as.length) .emp
section
variable {K : PySem.W.Frag} {r : Addr} {od : Option Addr} {X : WX} {ms : List Addr} {H : Hp} {σ : St} {ts : TS} {f : FS} {P : Program} {w : World} {mg : Str → Option Value} {base : Heap}
theorem env_Y : ∀ {vs : List V} {as : List (Option PyData)}, AgAll K H od vs as → EnvOk K H (as.map fun a => low 0 (yv od a)) (vs.map some)
  | _, _, .nil => .nil
  | _, _, .cons h t => by
    refine .cons ?_ (env_Y t)
    cases h with
    | dat o => exact o
    | dct e => subst e; exact rfl
theorem vs_Y : ∀ (as : List (Option PyData)) (m : Nat), Vs 0 (as.map (yv od) ++ List.replicate m .emp) (as.map (fun a => low 0 (yv od a)) ++ List.replicate m .emp) []
  | [], m => vs_args [] m
  | none :: as, m => .obj _ (vs_Y as m)
  | some d :: as, m => .dat d (vs_Y as m)
theorem atE_Y {N : List Str} {vs : List V} {as : List (Option PyData)} (l : Live ms H) (hD : ∀ D, od = some D → cut ms H D = some (.dK [])) (h : AgAll K (cut ms H) od vs as) : AtE K (WD W0 od) 0 H (cut ms H) ms (argsY od N.length as) (L2.start N vs) H := by
  refine ⟨ms, _, [], vs_Y as _, ⟨fun _ z => (by cases z), l, ?_, trivial, .refl H, Same.refl _, trivial, hD⟩, Same.refl _, (fun _ z => by cases z), fun _ z => z, List.nodup_nil, (fun p hp => nomatch hp), (fun p hp => nomatch hp)⟩
  unfold L2.start
  rw [h.len]
  exact EnvOk.app (env_Y h) (EnvOk.emp _)
theorem ag_some : ∀ {vs : List V} {as : List (Option PyData)}, AgAll K H od vs as → none ∈ as → ∃ D, od = some D
  | _, _, .nil, h => nomatch h
  | _, _, .cons h t, m => by
    rcases List.mem_cons.mp m with q | q
    · subst q
      cases h with
      | dct e => exact ⟨_, e⟩
    · exact ag_some t q
theorem raiseY {x qual : Str} {st : Stmt} {fa : Addr} {fd : FuncData} {N ps : List Str} {k : Nat} {O : List (Option PyData) → Sc.Out → Prop} (F : Fun K x qual st fa fd) (S : FnScope N ps (defScope st)) (hG : ∀ as o, O as o → as.length = ps.length)
    (hb : ∀ (cdv : Value) (A : Around) (outer : List Env) (s : Shared) (H : Hp) (E : XK), Room k (A.deeper (envOfC qual (defScope st) s.heap.objs.size fa cdv)) →
      ∃ t, PSs (cxOf (L2.CX P w) P w K mg base N qual (defScope st) fa cdv A outer s H E) (defBody st) t ∧ ∀ od, ∃ f, JS K (WD W0 od) 0 (fun c d _ H => E c d H) t f ∧ ∀ as o, O as o → (none ∈ as → ∃ D, od = some D) → f (argsY od N.length as) { nx := fun _ => o = .ok .none, rt := fun d => o = .ok d, ex := fun c _ => o = .no c }) : FnOk P w K mg base (L2.CX P w) (k + 1) fa fd ps (spY K O) := by
  refine F.okX S (fun vs H Q E h => ?_) fun cdv A outer s H vs Q E hr h => ?_
  · obtain ⟨ms, od, as, o, l, _, d, g, _⟩ := h
    rw [d.len, hG as o g]
  · obtain ⟨ms, od, as, o, l, hD, d, g, q1, q2⟩ := h
    obtain ⟨t, ht, hr⟩ := hb cdv A outer s H E hr
    obtain ⟨f, hj, hf⟩ := hr od
    refine ⟨t, ht, hj _ _ (hf as o g (ag_some d)) H (cut ms H) ms _ H _ (atE_Y l hD d) ⟨fun e σ H' q ⟨_, _, _, a⟩ => q1 _ q .non H' a.end_.xw.same .non, fun d' v H' q a s o => q1 d' q v H' a.xw.same o, fun e σ H' q a => False.elim q, fun e σ H' q a => False.elim q, fun c e σ H' q ⟨_, _, _, a⟩ => q2 c q H' a.end_.xw.same, fun c f d e σ H' dx v q => False.elim q, fun o v H' q => False.elim q⟩⟩
end
end Wp

namespace Fw
open PySem L2
theorem krg3 {X : Cx} {tg a b c : Expr} {p pos : Pos} {ta : TA} (hm : X.mg "range" = none) (ha : PA X [a, b, c] ta) (hg : X.env.kindOf "range" = some .globalImplicit := by kernel_rfl) (hs : starEach [a, b, c] X.env = (false, eval a X.env) :: starEach [b, c] X.env := by kernel_rfl) (hpl : (backTo pos (starEach [b, c] X.env)).any (·.1) = false := by kernel_rfl) : PI X tg (.Call (.Name "range" p) [a, b, c] [] pos) (iRng3 ta) := pi_range3 hg hm ha hs hpl
end Fw
/-! Wp, 6: more of it: comprehensions by a word, sorted, in, defs whose answer is one of several. -/
namespace Wp
open PySem L2 Fw
open PyProof.Rows (envOfC)
/-- defs that read alone, the answer one of several -/
def spQ (K : PySem.W.Frag) (Pre : List PyData → Prop) (Φ0 : List PyData → PyData → Prop) : Sp := fun vs H Q _ => ∃ (ms : List Addr) (ds : List PyData), Live ms H ∧ DpAll K (cut ms H) vs ds ∧ Pre ds ∧ ∀ d v H', Φ0 ds d → Same H H' → Dp K (cut ms H') v d → Q v H'
theorem dpa_perm {K : PySem.W.Frag} {H : Hp} {vs ws : List V} (p : ws.Perm vs) : ∀ {ds : List PyData}, DpAll K H vs ds → ∃ es, es.Perm ds ∧ DpAll K H ws es := by
  induction p with
  | nil => intro ds h; cases h; exact ⟨[], .nil, .nil⟩
  | cons x p ih => intro ds h; cases h with
    | cons h1 h2 =>
      obtain ⟨es, a, b⟩ := ih h2
      exact ⟨_ :: es, a.cons _, .cons h1 b⟩
  | swap x y l => intro ds h; cases h with
    | cons h1 h2 => cases h2 with
      | cons h2 h3 => exact ⟨_ :: _ :: _, .swap _ _ _, .cons h2 (.cons h1 h3)⟩
  | trans p q ih1 ih2 =>
    intro ds h
    obtain ⟨es, a, b⟩ := ih2 h
    obtain ⟨fs, c, d⟩ := ih1 b
    exact ⟨fs, c.trans a, d⟩
section
variable {K : PySem.W.Frag} {W : Wd} {r : Addr} {ms : List Addr} {B : Bs} {H H' : Hp} {ρ : List Sl} {σ : St} {ta tb te : TE} {tA : TA} {fa fb fe : FE} {ft : FT} {fA : FA} {n : Nat} {b : FG} {E : XK}
theorem lcW_inv {env : List Va} {Φ : List PyData → Prop} (I : Nat → List PyData → Prop) : ∀ {ds acc : List PyData} {i : Nat}, I i acc → (∀ j d acc, ds[j]? = some d → I (i + j) acc → ∀ (A : PyData → Prop) (C : Prop), (∀ e, I (i + j + 1) (acc ++ [e]) → A e) → (I (i + j + 1) acc → C) → stepW b ft fe env d A C) →
    (∀ acc, I (i + ds.length) acc → Φ acc) → lcW b ft fe env ds acc Φ
  | [], acc, i, h, _, hd => hd acc h
  | d :: ds, acc, i, h, hs, hd => by
    have next : ∀ acc', I (i + 0 + 1) acc' → lcW b ft fe env ds acc' Φ := fun acc' ie => lcW_inv I (i := i + 1) ie (fun j d' ac hj ie A C k1 k0 => hs (j + 1) d' ac hj (by rwa [show i + (j + 1) = i + 1 + j by omega]) A C (fun e ie => k1 e (by rwa [show i + (j + 1) + 1 = i + 1 + j + 1 by omega] at ie)) (fun ie => k0 (by rwa [show i + (j + 1) + 1 = i + 1 + j + 1 by omega] at ie))) fun ac ie => hd ac (by rw [List.length_cons, show i + (ds.length + 1) = i + 1 + ds.length by omega]; exact ie)
    exact hs 0 d acc rfl h _ _ (fun e ie => next _ ie) fun ie => next _ ie
theorem lcW_of {env : List Va} {Φ : List PyData → Prop} {ds : List PyData} (I : Nat → List PyData → Prop) (h : I 0 []) (hs : ∀ j d acc, ds[j]? = some d → I j acc → ∀ (A : PyData → Prop) (C : Prop), (∀ e, I (j + 1) (acc ++ [e]) → A e) → (I (j + 1) acc → C) → stepW b ft fe env d A C)
    (hd : ∀ acc, I ds.length acc → Φ acc) : lcW b ft fe env ds [] Φ := lcW_inv I (i := 0) h (fun j d acc hj ie A C k1 k0 => hs j d acc hj (by rwa [Nat.zero_add] at ie) A C (fun e ie => k1 e (by rwa [Nat.zero_add])) (fun ie => k0 (by rwa [Nat.zero_add]))) fun acc ie => hd acc (by rwa [Nat.zero_add] at ie)
theorem atI_neg1 {α : Type} {xs : List α} {x : α} : atI (xs ++ [x]) (-1) = some x := by
  unfold atI ixN
  rw [if_neg (by decide), if_pos (by rw [List.length_append, List.length_singleton]; omega), List.length_append]
  show (xs ++ [x])[(-1 + ((xs.length + 1 : Nat) : Int)).toNat]? = some x
  rw [show (-1 + ((xs.length + 1 : Nat) : Int)).toNat = xs.length by omega, List.getElem?_append_right (Nat.le_refl _), Nat.sub_self]
  rfl
theorem je_callQ {Pre : List PyData → Prop} {Φ0 : List PyData → PyData → Prop} (ha : JA K W r n tA fA) : JE K W r (tCall (spQ K Pre Φ0) [] E tA) (fun env Φ => fA env fun ds => Pre ds ∧ ∀ d, Φ0 ds d → Φ d) := fun env Φ φ ms B σ H a Q q => ha env _ φ ms B σ H a _ fun ds vs H1 ψ h1 x1 o1 => by
  show spQ K Pre Φ0 (vs ++ []) H1 Q E
  rw [List.append_nil]
  exact ⟨ms, ds, h1.live, o1, ψ.2.1, fun d v H2 φ0 s2 o2 => q (.dat d) v H2 ⟨d, rfl, ψ.2.2 d φ0⟩ (h1.same s2) (x1.trans (.of_same s2)) o2⟩
/-- sorted of tuples of ints, of one length -/
def sortTIK (ds : List PyData) (Φ : List PyData → Prop) : Prop := ∃ (L : List (List Int)) (d : Nat) (B : Int), ds = [.list (L.map fun v => .tuple (v.map .int))] ∧ (2 ≤ L.length → 1 ≤ d) ∧ (∀ v ∈ L, v.length = d ∧ ∀ m ∈ v, 0 ≤ m ∧ m < B) ∧ ∀ L' : List (List Int), L'.Perm L → Φ (L'.map fun v => .tuple (v.map .int))
theorem jf_sortedTI (h : JA K W r 1 tA fA) : JF K W r (tCB (rSortedTI K) tA) (fun env Φ => fA env fun ds => sortTIK ds Φ) := fun env Φ φ ms B σ H a Q q => h env _ φ ms B σ H a _ fun ds vs H1 ψ h1 x1 o1 => by
  obtain ⟨_, L, d, Bn, rfl, hd, hv, k⟩ := ψ
  cases o1 with
  | cons o1 o2 =>
    cases o2
    cases o1 with
    | @lst p xs _ hs hx =>
      have lx := dpa_len hx
      rw [List.length_map] at lx
      refine ⟨p, xs, d, Bn, rfl, sql_mono cut_le hs, fun z => hd (by omega), fun x mx => ?_, fun ys l hp hl => ?_⟩
      · obtain ⟨i, hi, rfl⟩ := List.getElem_of_mem mx
        obtain ⟨e, e1, e2⟩ := dpa_get hx (List.getElem?_eq_getElem hi)
        rw [List.getElem?_map] at e1
        obtain ⟨v, ev, rfl⟩ := Option.map_eq_some_iff.mp e1
        have mv := List.mem_of_getElem? ev
        refine ⟨v, ?_, (hv v mv).1, (hv v mv).2⟩
        generalize hx' : xs[i] = x at e2
        cases e2 with
        | tup hs2 ha2 =>
          rw [dpa_ints ha2] at hs2
          exact ⟨_, rfl, sqt_mono cut_le hs2⟩
      · obtain ⟨es, pe, de⟩ := dpa_perm hp hx
        obtain ⟨L', rfl, pL⟩ : ∃ L' : List (List Int), es = L'.map (fun v => .tuple (v.map .int)) ∧ L'.Perm L := perm_map pe
        have hw := (h1.fresh hl).2.2
        refine q _ l ys _ (k L' pL) (h1.same (same_put hl)) (x1.trans (.of_same (same_put hl))) ?_ upd_same (dpa_mono ((cut_new hl).trans cut_drop) _ _ de)
        cases z : H l with
        | none => rfl
        | some o => rw [x1 l o hw z] at hl; cases hl
where
  perm_map : ∀ {L : List (List Int)} {es : List PyData}, es.Perm (L.map fun v => PyData.tuple (v.map .int)) → ∃ L' : List (List Int), es = L'.map (fun v => .tuple (v.map .int)) ∧ L'.Perm L
    | L, es, p => by
      have key : ∀ (as bs : List PyData), as.Perm bs → ∀ L : List (List Int), bs = L.map (fun v => PyData.tuple (v.map .int)) → ∃ L' : List (List Int), as = L'.map (fun v => .tuple (v.map .int)) ∧ L'.Perm L := by
        intro as bs p
        induction p with
        | nil => intro L e; cases L with
          | nil => exact ⟨[], rfl, .nil⟩
          | cons v L => cases e
        | cons x p ih => intro L e; cases L with
          | nil => cases e
          | cons v L =>
            rw [List.map_cons] at e
            injection e with e1 e2
            obtain ⟨L', a, b⟩ := ih L e2
            exact ⟨v :: L', by rw [a, e1]; rfl, b.cons _⟩
        | swap x y l => intro L e; match L, e with
          | v :: w :: L, e =>
            simp only [List.map_cons, List.cons.injEq] at e
            obtain ⟨e1, e2, e3⟩ := e
            exact ⟨w :: v :: L, by rw [e1, e2, e3]; rfl, .swap _ _ _⟩
        | trans p q ih1 ih2 =>
          intro L e
          obtain ⟨L1, a, b⟩ := ih2 L e
          obtain ⟨L2, c, d⟩ := ih1 L1 a
          exact ⟨L2, c, d.trans b⟩
      exact key _ _ p L rfl
/-- str(n) -/
def strIK (ds : List PyData) (Φ : PyData → Prop) : Prop := oneK ds fun d => intK d fun i => i.natAbs.log2 < 1920 ∧ Φ (.str (toString i))
theorem je_strI (h : JA K W r 1 tA fA) : JE K W r (tCB (fun xs H Q => ∃ i : Int, xs = [V.int i] ∧ i.natAbs.log2 < 1920 ∧ Q (V.str (toString i)) H) tA) (fun env Φ => fA env fun ds => strIK ds Φ) := je_liftA (F := fun a => tCB (fun xs H Q => ∃ i : Int, xs = [V.int i] ∧ i.natAbs.log2 < 1920 ∧ Q (V.str (toString i)) H) a) h (fun σ H Q h => h) fun ds Φ _ h => by
  obtain ⟨d, rfl, h1⟩ := oneK_of h
  obtain ⟨i, rfl, hl, h2⟩ := intK_of h1
  exact ⟨_, h2, fun W' a ρ e => ev_cb e (rc1 fun ms H v l o Q q => by cases o; exact ⟨_, rfl, hl, q _ H (Same.refl H) (.str _)⟩)⟩
/-- [x] * n -/
theorem jf_rep (ha : JA K W r 1 tA fA) (hb : JE K W r tb fb) : JF K W r (tOp rRep (tLst tA) tb) (fun env Φ => fA env fun ds => fb env fun y => oneK ds fun d => intK y fun n => (0 ≤ n ∧ n ≤ 100000) ∧ Φ (List.replicate n.toNat d)) := fun env Φ φ ms B σ H a Q q =>
  ha env _ φ ms B σ H a _ fun ds vs H1 ψ h1 x1 o1 => by
    obtain ⟨el, ψ⟩ := ψ
    refine ⟨by rw [dpa_len o1, el]; exact (by decide : 1 ≤ sizeLine), fun p hp => ?_⟩
    have sp := same_put (o := .lst vs) hp
    have g2 := h1.same sp
    have w2 := (h1.fresh hp).2.2
    refine hb env _ ψ ms B σ _ g2 _ fun s y H2 ψ2 h2 x2 oy => ?_
    obtain ⟨y', rfl, ψ2⟩ := ψ2
    obtain ⟨d, rfl, ψ3⟩ := oneK_of ψ2
    obtain ⟨n, rfl, hn, ψ4⟩ := intK_of ψ3
    cases oy
    cases o1 with
    | @cons v _ _ _ o1 o2 =>
      cases o2
      refine ⟨p, n, [v], rfl, rfl, x2 p _ w2 upd_same, by omega, by omega, by rw [List.length_singleton]; exact Nat.le_trans (show 1 * n.toNat ≤ 100000 by omega) (by decide), fun p2 hp2 => ?_⟩
      rw [flat_rep]
      have hw2 := (h2.fresh hp2).2.2
      have xx : XW W.ws H H2 := (x1.trans (.of_same sp)).trans x2
      refine q _ p2 _ _ ψ4 (h2.same (same_put hp2)) (xx.trans (.of_same (same_put hp2))) ?_ upd_same (dpa_rep (dp_mono ?_ _ _ o1))
      · cases z : H p2 with
        | none => rfl
        | some o => rw [xx p2 o hw2 z] at hp2; cases hp2
      · exact (cut_put (.inr hp)).trans ((x2.cut g2.sub).trans ((cut_new hp2).trans cut_drop))
/-- n in xs, of ints -/
def inK (neg : Bool) (x y : PyData) (Φ : PyData → Prop) : Prop := intK x fun n => ∃ ns : List Int, (y = .list (ns.map .int) ∨ y = .tuple (ns.map .int)) ∧ Φ (.bool (ng neg (decide (n ∈ ns))))
theorem inV_ints {n : Int} {ns : List Int} : inV (V.int n) (ns.map V.int) = decide (n ∈ ns) := by
  unfold inV
  rw [Bool.eq_iff_iff, List.any_eq_true, decide_eq_true_eq]
  constructor
  · rintro ⟨y, hy, e⟩
    obtain ⟨m, hm, rfl⟩ := List.mem_map.mp hy
    have : m = n := by simpa [eqV] using e
    exact this ▸ hm
  · exact fun hn => ⟨.int n, List.mem_map_of_mem hn, by simp [eqV]⟩
theorem flat_ints (ns : List Int) : (ns.map V.int).all flatV = true := by
  rw [List.all_eq_true]
  intro v hv
  obtain ⟨n, _, rfl⟩ := List.mem_map.mp hv
  rfl
theorem rs_in {neg : Bool} {n : Int} {ns : List Int} {y : PyData} (h : y = .list (ns.map .int) ∨ y = .tuple (ns.map .int)) : Rs K (rIn K neg) (.dat (.int n)) (.dat y) (.dat (.bool (ng neg (decide (n ∈ ns))))) := fun ms H v w _ hx hy Q q => by
  cases hx
  have fin : Q (.bl (if neg then !inV (V.int n) (ns.map V.int) else inV (V.int n) (ns.map V.int))) H := by
    rw [inV_ints]
    cases neg
    · exact q _ H (Same.refl H) (.bl _)
    · exact q _ H (Same.refl H) (.bl _)
  rcases h with rfl | rfl
  · cases hy with
    | lst hs ha =>
      rw [dpa_ints ha] at hs
      exact ⟨_, _, rfl, .inl (sql_mono cut_le hs), rfl, flat_ints ns, fin⟩
  · cases hy with
    | tup hs ha =>
      rw [dpa_ints ha] at hs
      exact ⟨_, _, rfl, .inr (sqt_mono cut_le hs), rfl, flat_ints ns, fin⟩
theorem je_in (ha : JE K W r ta fa) (hb : JE K W r tb fb) : JE K W r (tOp (rIn K false) ta tb) (fun env Φ => fa env fun x => fb env fun y => inK false x y Φ) := je_op ha hb fun x y Φ h => by
  obtain ⟨n, rfl, ns, e, h⟩ := intK_of h
  exact ⟨_, h, rs_in e⟩
theorem je_notIn (ha : JE K W r ta fa) (hb : JE K W r tb fb) : JE K W r (tOp (rIn K true) ta tb) (fun env Φ => fa env fun x => fb env fun y => inK true x y Φ) := je_op ha hb fun x y Φ h => by
  obtain ⟨n, rfl, ns, e, h⟩ := intK_of h
  exact ⟨_, h, rs_in e⟩
end
section
variable {K : PySem.W.Frag} {P : Program} {w : World} {mg : Str → Option Value} {base : Heap}
theorem pureQ {x qual : Str} {st : Stmt} {fa : Addr} {fd : FuncData} {N ps : List Str} {k : Nat} {Pre : List PyData → Prop} {Φ : List PyData → PyData → Prop} (F : Fun K x qual st fa fd) (S : FnScope N ps (defScope st)) (hG : ∀ ds, Pre ds → ds.length = ps.length)
    (hb : ∀ (cdv : Value) (A : Around) (outer : List Env) (s : Shared) (H : Hp) (E : XK), Room k (A.deeper (envOfC qual (defScope st) s.heap.objs.size fa cdv)) →
      ∃ t f, PSs (cxOf CX0 P w K mg base N qual (defScope st) fa cdv A outer s H E).nox (defBody st) t ∧ JS K W0 0 (fun _ _ _ _ => False) t f ∧ ∀ ds, Pre ds → f (args N.length ds) { nx := fun _ => Φ ds .none, rt := Φ ds }) : FnOk P w K mg base CX0 (k + 1) fa fd ps (spQ K Pre Φ) := by
  refine F.ok S (fun vs H Q E h => ?_) fun cdv A outer s H vs Q E hr h => ?_
  · obtain ⟨ms, ds, l, o, p, _⟩ := h
    rw [dpa_len o, hG ds p]
  · obtain ⟨ms, ds, l, o, p, q⟩ := h
    obtain ⟨t, f, ht, hj, hf⟩ := hb cdv A outer s H E hr
    exact ⟨t, ht, hj _ _ (hf ds p) H (cut ms H) ms _ H _ (atE_start (at_start l o)) ⟨fun e σ H' r ⟨_, _, _, a⟩ => q .none .non H' r a.end_.xw.same .non, fun d' v H' r a s o => q d' v H' r a.xw.same o, fun e σ H' r a => False.elim r, fun e σ H' r a => False.elim r, fun c e σ H' r a => False.elim r, fun c f d e σ H' dx v q => False.elim q, fun o v H' q => False.elim q⟩⟩
end
end Wp

/-! Wp, 7: try, the caught exception kept. -/
namespace Wp
open PySem L2 Fw
open PyProof.Rows (envOfC)
/-- a world in which a kept exception of a class stands -/
def WO (W : Wd) (oc : Option (Addr × Addr)) : Wd := { ws := W.ws, P := W.P, sup := W.sup, C := fun H => W.C H ∧ ∀ c a, oc = some (c, a) → H a = some (ExK (.ref c) a), mono := fun H H' s h => ⟨W.mono H H' s h.1, fun c a e => s _ _ (h.2 c a e)⟩ }
def excK (K : PySem.W.Frag) (oc : Option (Addr × Addr)) (env : List Va) (i : Nat) (C : Addr) (Φ : PyData → Prop) : Prop := match env[i]? with
  | some (.dat .none) => PySem.W.kitOne K (.type "NoneType") (.ref C) = some false ∧ Φ (.bool false)
  | some (.obj a) => ∃ c b, oc = some (c, a) ∧ ExcC K c ∧ PySem.W.kitOne K (.ref c) (.ref C) = some b ∧ Φ (.bool b)
  | _ => False
section
variable {K : PySem.W.Frag} {W : Wd} {r : Addr} {oc : Option (Addr × Addr)} {X : WX} {ms : List Addr} {B : Bs} {H H' : Hp} {ρ : List Sl} {σ : St} {ts : TS} {i j : Nat} {tb : WX → TS} {fb : FS} {fr : Option (Addr × Addr) → FS} {c : Value}
theorem je_isX (i : Nat) {C : Addr} : JE K (WO W oc) r (tCB (rIsX K) (tCons (tVar i) (tCons (tC (.ref C)) tNil))) (fun env Φ => excK K oc env i C Φ) := fun env Φ φ ms B σ H g Q q => by
  have φ : excK K oc env i C Φ := φ
  unfold excK at φ
  split at φ
  · rename_i e
    have em : (env.map (low r))[i]? = some (.dat .none) := by rw [List.getElem?_map, e]; rfl
    obtain ⟨v, ev, ov⟩ := g.env.get em (by intro q; cases q)
    cases ov
    exact ⟨_, ev, .inl ⟨.non, .ref C, .type "NoneType", .ref C, false, rfl, .own C, .base .non, φ.1, q (.dat (.bool false)) _ H ⟨_, rfl, φ.2⟩ g (.refl H) (.bl _)⟩⟩
  · rename_i a e
    obtain ⟨c, b, ec, xc, k, φ⟩ := φ
    have em : (env.map (low r))[i]? = some (.raw (.ref a)) := by rw [List.getElem?_map, e]; rfl
    obtain ⟨v, ev, ov⟩ := g.env.get em (by intro q; cases q)
    obtain rfl : v = .ref a := ov
    have hD : H a = some (ExK (.ref c) a) := cut_le _ _ (g.c.2 c a ec)
    exact ⟨_, ev, .inr ⟨a, c, .ref C, .ref C, b, rfl, hD, xc, .own C, k, q (.dat (.bool b)) _ H ⟨_, rfl, φ⟩ g (.refl H) (.bl b)⟩⟩
  · exact False.elim φ
theorem js_cut {rest total : TS} {R : FS → Prop} {Goal : FS → Prop} (h1 : ∃ fr, JS K W r X rest fr ∧ R fr) (h2 : ∀ fr, JS K W r X rest fr → R fr → ∃ f, JS K W r X total f ∧ Goal f) : ∃ f, JS K W r X total f ∧ Goal f := by
  obtain ⟨fr, j, h⟩ := h1
  exact h2 fr j h
theorem at_uo (h : At K (WO W oc) ms B ρ σ H) : At K W ms B ρ σ H := ⟨h.sub, h.live, h.env, h.p, h.xw, h.st, h.c.1⟩
theorem atE_uo {h0 hc : Hp} {ms0 : List Addr} {env : List Va} : AtE K (WO W oc) r h0 hc ms0 env σ H → AtE K W r h0 hc ms0 env σ H
  | ⟨ms, ρ, os, h⟩ => ⟨ms, ρ, os, h.vs, at_uo h.at_, h.hc, h.ws0, h.sub, h.nd, fun p hp => (by have o := h.own p hp; exact ⟨o.mem, o.nws, o.h0, o.val⟩), h.out⟩
theorem endsOk_wo {h0 hc : Hp} {ms0 : List Addr} {P : Post} {D : Ends} (k : EndsOk K W r X h0 hc ms0 P D) : EndsOk K (WO W oc) r X h0 hc ms0 P D := ⟨fun e σ H q a => k.nx e σ H q (atE_uo a), fun d v H q a s o => k.rt d v H q (at_uo a) s o, fun e σ H q a => k.bk e σ H q (atE_uo a), fun e σ H q a => k.ct e σ H q (atE_uo a), fun c e σ H q a => k.ex c e σ H q (atE_uo a), fun c f d e σ H dx v q ⟨ms, ρ, os, h, nd, od⟩ => k.exf c f d e σ H dx v q ⟨ms, ρ, os, ⟨h.vs, at_uo h.at_, h.hc, h.ws0, h.sub, h.nd, fun p hp => (by have o := h.own p hp; exact ⟨o.mem, o.nws, o.h0, o.val⟩), h.out⟩, nd, od⟩, fun o v H q a s od => k.ro o v H q (at_uo a) s od⟩
theorem atE_wo {h0 hc : Hp} {ms0 : List Addr} {env : List Va} : AtE K W r h0 hc ms0 env σ H → AtE K (WO W none) r h0 hc ms0 env σ H
  | ⟨ms, ρ, os, h⟩ => ⟨ms, ρ, os, h.vs, ⟨h.at_.sub, h.at_.live, h.at_.env, h.at_.p, h.at_.xw, h.at_.st, h.at_.c, fun c a e => (by cases e)⟩, h.hc, h.ws0, h.sub, h.nd, fun p hp => (by have o := h.own p hp; exact ⟨o.mem, o.nws, o.h0, o.val⟩), h.out⟩
def tryE (i j : Nat) (a : Addr) (e : List Va) : List Va := ((e.set i .emp).set j (.obj a)).set i .emp
/-- try: .. except c as x: y = x, and what follows -/
theorem jc_try (hb : ∀ X : WX, JS K W r X (tb X) fb) (hr : ∀ oc, JS K (WO W oc) r X ts (fr oc)) : JS K W r X (tSeq (fun D σ H => tb (wKeep K c i (fun a => tAsg (tVar i) (gName j)) D) D σ H) ts)
    (fun env P => fb env { nx := fun e => fr none e P, rt := P.rt, ex := fun cl e => (PySem.W.exmOne K (.ref cl) c = some true ∧ i < e.length) ∧ ∀ a, fr (some (cl, a)) (tryE i j a e) P }) := fun env P φ h0 hc ms0 σ H D a k => by
  refine hb _ env _ φ h0 hc ms0 σ H _ a ⟨fun e σ1 H1 q a1 => hr none e P q h0 hc ms0 σ1 H1 D (atE_wo a1) (endsOk_wo k), k.rt, fun e σ1 H1 q a1 => False.elim q, fun e σ1 H1 q a1 => False.elim q, fun cl e σ1 H1 ⟨⟨q1, q2⟩, q3⟩ a1 => ⟨q1, rfl, fun x hx => ?_⟩, fun c f d e σ H dx v q => False.elim q, fun o v H q => False.elim q⟩
  obtain ⟨ms, ρ, os, a1⟩ := a1
  have ls : i < σ1.length := by rw [envOk_len a1.at_.env, vs_len a1.vs]; exact q2
  refine ⟨.ref x, List.getElem?_set_self ls, ?_⟩
  show ts D (((σ1.set i (some (.ref x))).set j (some (.ref x))).set i none) (upd H1 x (ExK (.ref cl) x))
  have s := same_put (o := ExK (.ref cl) x) hx
  have a2 := a1.go (.of_same s) (a1.at_.live.same s) (a1.at_.same s).p
  have xm : x ∉ ms := a1.at_.live.fresh hx
  obtain ⟨os1, v1, s1⟩ := a2.vs.emp_ i
  obtain ⟨os2, v2, s2⟩ := v1.obj_ x j
  obtain ⟨os3, v3, s3⟩ := v2.emp_ i
  have sl := (s3.trans s2).trans s1
  refine hr (some (cl, x)) _ P (q3 x) h0 hc ms0 _ _ D ⟨ms, _, os3, v3, ⟨a2.at_.sub, a2.at_.live, ?_, a2.at_.p, a2.at_.xw, a2.at_.st, a2.at_.c, fun c a e => ?_⟩, a2.hc, a2.ws0, a2.sub, (sl.map _).nodup a2.nd, fun p hp => ?_, fun p hp => a2.out p (sl.subset hp)⟩ (endsOk_wo k)
  · exact EnvOk.set (s := .emp) trivial i (EnvOk.set (s := .raw (.ref x)) (o := some (.ref x)) rfl j (EnvOk.set (s := .emp) trivial i a2.at_.env))
  · cases e
    rw [cut_out xm]
    exact upd_same
  · have o := a2.own p (sl.subset hp)
    exact ⟨o.mem, o.nws, o.h0, o.val⟩
end
section
variable {K : PySem.W.Frag}
theorem kit_none {C : Addr} (i : PySem.W.isClsIn K C = true) (t : PySem.W.typeIn K (.ref C) = some (.type "type")) : PySem.W.kitOne K (.type "NoneType") (.ref C) = some false := by
  unfold PySem.W.kitOne
  rw [if_neg (show ¬ ((Value.type "NoneType" == Value.ref C) = true) from Bool.false_ne_true)]
  show (if ((PySem.W.clsIn K C).isSome && PySem.W.typeIn K (.ref C) == some (.type "type")) = true then PySem.W.subIn K (.type "NoneType") (.ref C) else none) = some false
  have i' : (PySem.W.clsIn K C).isSome = true := i
  rw [if_pos (by rw [i', t]; rfl)]
  rfl
theorem kit_cls {C D : Addr} {b : Bool} (i : PySem.W.isClsIn K D = true) (t : PySem.W.typeIn K (.ref D) = some (.type "type")) (s : PySem.W.subIn K (.ref C) (.ref D) = some b) (r : PySem.W.subIn K (.ref D) (.ref D) = some true) : PySem.W.kitOne K (.ref C) (.ref D) = some b := by
  unfold PySem.W.kitOne
  by_cases h : (Value.ref C == Value.ref D) = true
  · have e : C = D := Value.ref.inj (beq_iff_eq.mp h)
    subst e
    rw [if_pos h, ← r, s]
  · rw [if_neg h]
    show (if ((PySem.W.clsIn K D).isSome && PySem.W.typeIn K (.ref D) == some (.type "type")) = true then PySem.W.subIn K (.ref C) (.ref D) else none) = some b
    have i' : (PySem.W.clsIn K D).isSome = true := i
    rw [if_pos (by rw [i', t]; rfl)]
    exact s
end
/-! defs of any arguments that hand back data -/
def spYG (K : PySem.W.Frag) (G : List (Option PyData) → PyData → Prop) : Sp := fun vs H Q _ => ∃ (ms : List Addr) (od : Option Addr) (as : List (Option PyData)) (d : PyData), Live ms H ∧ (∀ D, od = some D → cut ms H D = some (.dK [])) ∧ AgAll K (cut ms H) od vs as ∧ G as d ∧
  ∀ v H', Same H H' → Dp K (cut ms H') v d → Q v H'
section
variable {K : PySem.W.Frag} {W : Wd} {r : Addr} {od : Option Addr} {n : Nat} {tA : TA} {fy : FY} {fA : FA} {E : XK} {G : List (Option PyData) → PyData → Prop} {P : Program} {w : World} {mg : Str → Option Value} {base : Heap}
theorem je_callYG (h : JY K W r od n tA fy) : JE K (WD W od) r (tCall (spYG K G) [] E tA) (fun env Φ => fy env fun as => ∃ d, G as d ∧ Φ d) := fun env Φ φ ms B σ H a Q q =>
  h _ _ φ ms B σ H a _ fun as vs H1 _ ψ h1 x1 o1 => by
    obtain ⟨d, ho, ψ⟩ := ψ
    show spYG K G (vs ++ []) H1 Q E
    rw [List.append_nil]
    exact ⟨ms, od, as, d, h1.live, h1.c.2, o1, ho, fun v H2 s2 o2 => q (.dat d) v H2 ⟨d, rfl, ψ⟩ (h1.same s2) (x1.trans (.of_same s2)) o2⟩
theorem je_callYGA (h : JA K W r n tA fA) : JE K W r (tCall (spYG K G) [] E tA) (fun env Φ => fA env fun ds => ∃ d, G (ds.map some) d ∧ Φ d) := fun env Φ φ ms B σ H a Q q =>
  h _ _ φ ms B σ H a _ fun ds vs H1 ψ h1 x1 o1 => by
    obtain ⟨_, d, ho, ψ⟩ := ψ
    show spYG K G (vs ++ []) H1 Q E
    rw [List.append_nil]
    exact ⟨ms, none, ds.map some, d, h1.live, fun D e => (by cases e), je_callYA.ags o1, ho, fun v H2 s2 o2 => q (.dat d) v H2 ⟨d, rfl, ψ⟩ (h1.same s2) (x1.trans (.of_same s2)) o2⟩
theorem pureYG {x qual : Str} {st : Stmt} {fa : Addr} {fd : FuncData} {N ps : List Str} {k : Nat} (F : Fun K x qual st fa fd) (S : FnScope N ps (defScope st)) (hG : ∀ as d, G as d → as.length = ps.length)
    (hb : ∀ (cdv : Value) (A : Around) (outer : List Env) (s : Shared) (H : Hp) (E : XK), Room k (A.deeper (envOfC qual (defScope st) s.heap.objs.size fa cdv)) →
      ∃ t, PSs (cxOf CX0 P w K mg base N qual (defScope st) fa cdv A outer s H E).nox (defBody st) t ∧ ∀ od, ∃ f, JS K (WD W0 od) 0 (fun _ _ _ _ => False) t f ∧ ∀ as d, G as d → (none ∈ as → ∃ D, od = some D) → f (argsY od N.length as) { nx := fun _ => d = .none, rt := (· = d) }) : FnOk P w K mg base CX0 (k + 1) fa fd ps (spYG K G) := by
  refine F.ok S (fun vs H Q E h => ?_) fun cdv A outer s H vs Q E hr h => ?_
  · obtain ⟨ms, od, as, d, l, _, o, g, _⟩ := h
    rw [o.len, hG as d g]
  · obtain ⟨ms, od, as, d, l, hD, o, g, q1⟩ := h
    obtain ⟨t, ht, hr⟩ := hb cdv A outer s H E hr
    obtain ⟨f, hj, hf⟩ := hr od
    exact ⟨t, ht, hj _ _ (hf as d g (ag_some o)) H (cut ms H) ms _ H _ (atE_Y l hD o) ⟨fun e σ H' q ⟨_, _, _, a⟩ => (by subst q; exact q1 .non H' a.end_.xw.same .non), fun d' v H' q a s o => (by subst q; exact q1 v H' a.xw.same o), fun e σ H' q a => False.elim q, fun e σ H' q a => False.elim q, fun c e σ H' q a => False.elim q, fun c f d e σ H' dx v q => False.elim q, fun o v H' q => False.elim q⟩⟩
end
end Wp

/-! x *= e, ints. -/
namespace Wp
open PySem L2 Fw
open PyProof.Rows
def ipM : TIp := fun x y H Q => ∃ i j, x = .int i ∧ y = .int j ∧ CMul i j ∧ Q (.int (i * j)) H
theorem ip_mul {X : Cx} : PIp X .Mult ipM := by
  intro pins s σ H x y v u Q I r1 r2 h
  obtain ⟨i, j, e1, e2, c, q⟩ := h
  subst e1; subst e2
  obtain ⟨t, rfl⟩ := r1
  obtain ⟨t', rfl⟩ := r2
  exact imul_int ⟨.int _, H, I.tok _, ⟨_, rfl⟩, q⟩ c.ok
section
variable {K : PySem.W.Frag} {W : Wd} {r : Addr} {X : WX} {te : TE} {fe : FE}
theorem jc_augM (i : Nat) (h : JE K W r te fe) : JS K W r X (tAug i te ipM) (fun env P => datK env i fun x => fe (env.map hid) fun y => iiC CMul (fun a b => .int (a * b)) x y fun z => P.nx (env.set i (.dat z))) := fun env P φ h0 hc ms0 σ H D ⟨ms, ρ, os, a⟩ k => by
  obtain ⟨x, e, φ⟩ := datK_of φ
  have em : ((env.map hid).map (low r))[i]? = some (.dat x) := by rw [List.getElem?_map, List.getElem?_map, e]; rfl
  obtain ⟨v, ev, ov⟩ := a.hidden.env.get em (by intro q; cases q)
  refine ⟨v, ev, h _ _ φ _ _ σ H a.hidden _ fun s w H1 ψ g x1 o => ?_⟩
  obtain ⟨y, rfl, ψ⟩ := ψ
  obtain ⟨n1, n2, rfl, rfl, c, ψ⟩ := iiC_of ψ
  cases ov; cases o
  obtain ⟨os', a1, _⟩ := (a.backH g x1).set (v := .int (n1 * n2)) (d := .int (n1 * n2)) (.int _) i
  exact ⟨n1, n2, rfl, rfl, c, k.nx _ _ _ ψ ⟨_, _, _, a1⟩⟩
end
section
variable {K : PySem.W.Frag} {W : Wd} {ρ : List Sl} {ta te : TE} {ds : List PyData} {r : Addr} {fa : FE}
theorem dpa_take {H : Hp} : ∀ {ds : List PyData} {vs : List V} (n : Nat), DpAll K H vs ds → DpAll K H (vs.take n) (ds.take n)
  | [], _, n, h => by cases h; simp; exact .nil
  | d :: ds, _, 0, h => by cases h; exact .nil
  | d :: ds, _, n + 1, h => by cases h with | cons a t => exact .cons a (dpa_take n t)
/-- t[:-1] -/
theorem ev_init0 {tb : TE} (ha : Evd K W ta ρ (.tuple ds)) (hb : Evd K W tb ρ (.int (-1))) : Evd K W (tSl (rSlA K) ta tNoPart (tPart tb)) ρ (.tuple ds.dropLast) := fun ms B σ H a Q q => ha ms B σ H a _ fun v H1 h1 x1 o1 => hb ms B σ H1 h1 _ fun w H2 h2 x2 o2 => by
  cases o2
  have o3 := dp_mono (x2.cut h1.sub) _ _ o1
  refine ⟨_, rfl, ?_⟩
  have o4 := o3
  have sx1 : ∀ n : Nat, HT.sIx n n (some (-1)) = n - 1 := fun n => by
    show (if (-1 : Int) < 0 then (-1 + (n : Int)).toNat else min (-1 : Int).toNat n) = n - 1
    rw [if_pos (by decide)]
    omega
  cases o3 with
  | tup sx dx =>
    have lx := dpa_len dx
    refine ⟨_, _, rfl, sqt_mono cut_le sx, fun hw => q _ H2 h2 (x1.trans x2) ?_, fun _ p hp => q _ _ (h2.same (same_put hp)) ((x1.trans x2).trans (.of_same (same_put hp))) ?_⟩
    · have h2 := hw.2
      rw [sx1] at h2
      have e : ds = [] := List.length_eq_zero_iff.mp (by omega)
      subst e
      exact o4
    · unfold cutV
      rw [HT.sIx_none, sx1, List.drop_zero, Nat.sub_zero, List.dropLast_eq_take, ← lx]
      exact Sl.new_tup h2.live hp (dpa_take _ dx)
def initK (x : PyData) (Φ : PyData → Prop) : Prop := tupK x fun ds => Φ (.tuple ds.dropLast)
theorem je_initT (ha : JE K W r ta fa) : JE K W r (tSl (rSlA K) ta tNoPart (tPart (tUn (rU fun i => .int (-i)) (tC (.int 1))))) (fun env Φ => fa env fun x => initK x Φ) := je_lift (F := fun a => tSl (rSlA K) a tNoPart (tPart (tUn (rU fun i => .int (-i)) (tC (.int 1))))) ha (fun σ H Q h => h) fun x Φ h => by
  obtain ⟨ds, rfl, h1⟩ := tupK_of h
  exact ⟨_, h1, fun W' a ρ e => ev_init0 e (ev_neg ev_int)⟩
theorem ev_lisRg {n : Nat} (h : Evd K W te ρ (.int (n : Int))) (hn : n ≤ 100000) : Evd K W (tLstRg (tRg1 te)) ρ (.list ((List.range n).map fun i => PyData.int (i : Nat))) := fun ms B σ H g Q q => h ms B σ H g _ fun v H1 g1 x1 o1 => by
  cases o1
  refine ⟨n, rfl, ⟨by omega, by omega, by omega, by omega, by omega⟩, fun p hp => ?_⟩
  refine q _ _ (g1.same (same_put hp)) (x1.trans (.of_same (same_put hp))) (Sl.new_lst g1.live hp ?_)
  have := dpa_rg K (cut ms H1) 0 (n : Int)
  simp only [Int.sub_zero, Int.toNat_natCast, Int.zero_add] at this
  exact this
def lisRgK (x : PyData) (Φ : PyData → Prop) : Prop := intK x fun n => (0 ≤ n ∧ n ≤ 100000) ∧ Φ (.list (rangeD n))
theorem je_lisRg (ha : JE K W r ta fa) : JE K W r (tLstRg (tRg1 ta)) (fun env Φ => fa env fun x => lisRgK x Φ) := je_lift (F := fun a => tLstRg (tRg1 a)) ha (fun σ H Q h => h) fun x Φ h => by
  obtain ⟨n, rfl, hn, h1⟩ := intK_of h
  refine ⟨_, h1, fun W' a ρ e => ?_⟩
  have := ev_lisRg (n := n.toNat) (evd_eq e (by congr 1; omega)) (by omega)
  exact this
end
end Wp

/-! Wp, 9: exceptions with a field; what a call ended in, as a value. -/
namespace Wp
open PySem L2 Fw
open PyProof.Rows (envOfC)
/-- a world in which a caught exception stands as told -/
def WA (K : PySem.W.Frag) (W : Wd) (oo : Option (Sc.Out × Addr)) : Wd := { ws := W.ws, P := W.P, sup := W.sup, C := fun H => W.C H ∧ ∀ o a, oo = some (o, a) → Sc.ArgO K H o (.ref a), mono := fun H H' s h => ⟨W.mono H H' s h.1, fun o a e => (h.2 o a e).mono s⟩ }
def clsO : Sc.Out → Option Addr
  | .ok _ => none
  | .no c => some c
  | .fd c _ _ => some c
def isDK (K : PySem.W.Frag) (oo : Option (Sc.Out × Addr)) (env : List Va) (i : Nat) (C : Addr) (Φ : PyData → Prop) : Prop := match env[i]? with
  | some (.dat .none) => PySem.W.kitOne K (.type "NoneType") (.ref C) = some false ∧ Φ (.bool false)
  | some (.obj a) => ∃ o c b, oo = some (o, a) ∧ clsO o = some c ∧ ExcC K c ∧ PySem.W.kitOne K (.ref c) (.ref C) = some b ∧ Φ (.bool b)
  | _ => False
def fldK (K : PySem.W.Frag) (oo : Option (Sc.Out × Addr)) (env : List Va) (i : Nat) (f : Str) (Φ : PyData → Prop) : Prop := match env[i]? with
  | some (.obj a) => ∃ c d, oo = some (.fd c f d, a) ∧ ExcC K c ∧ PySem.W.findIn K (.ref c) f = some none ∧ Φ d
  | _ => False
def roK (oo : Option (Sc.Out × Addr)) (env : List Va) (i : Nat) (P : Post) : Prop := match env[i]? with
  | some (.dat d) => P.ro (.ok d)
  | some (.obj a) => ∃ o, oo = some (o, a) ∧ P.ro o
  | _ => False
section
variable {K : PySem.W.Frag} {W : Wd} {r : Addr} {oo : Option (Sc.Out × Addr)} {X Y : WX} {ms : List Addr} {B : Bs} {H H' : Hp} {ρ : List Sl} {σ : St} {ts : TS} {i j n : Nat} {tA : TA} {fA : FA} {tb : WX → TS} {fb : FS} {fr : Option (Sc.Out × Addr) → FS} {c : Value} {f : Str} {C : Addr}
/-- raise C(e) -/
theorem jc_raiseS (h : JA K W r 1 tA fA) (hE : ∀ c d σ H, X (.ref c) d σ H → Y (.ref c) d σ H) : JS K W r X (fun _ σ H => tMkO C (spSup C f) [] tA σ H fun cls d H' => Y cls d σ H') (fun env P => fA env fun ds => oneK ds fun d => P.exf C f d env) := fun env P φ h0 hc ms0 σ H D ⟨ms, ρ, os, a⟩ k =>
  h _ _ φ _ _ σ H a.lent _ fun ds vs H1 ψ g x o => by
    obtain ⟨_, ψ⟩ := ψ
    obtain ⟨d, rfl, ψ⟩ := oneK_of ψ
    cases o with
    | @cons v _ _ _ o1 o2 =>
      cases o2
      refine ⟨by show 1 ≤ 1000; decide, fun e he => ?_⟩
      refine ⟨e, v, rfl, upd_same, fun dx hdx ne => ⟨rfl, dx, [(f, v)], upd_same, ?_, ?_, ?_⟩⟩
      · rw [upd_ne ne, upd_same]
      · rwa [upd_ne ne] at hdx
      · rw [upd_ne ne] at hdx
        have eq : upd (del (upd (upd (upd H1 e (exo e C none)) dx (exd dx [(f, v)])) e (exo e C (some dx))) e) dx (HO.xd [(f, v)]) = upd H1 dx (HO.xd [(f, v)]) := by
          funext b
          by_cases hb : b = dx
          · rw [hb, upd_same, upd_same]
          · rw [upd_ne hb, upd_ne hb]
            by_cases hb2 : b = e
            · rw [hb2, del_same, he]
            · rw [del_ne hb2, upd_ne hb2, upd_ne hb, upd_ne hb2]
        rw [eq]
        have s2 := same_put (o := HO.xd [(f, v)]) hdx
        have hz := At.fresh (a.backL g x).at_ hdx
        exact hE C (some dx) σ _ (k.exf C f d env σ _ dx v ψ ⟨_, _, _, a.backL (g.same s2) (x.trans (.of_same s2)), hz.2.1, dp_mono (cut_put (.inr hdx)) _ _ o1⟩ hz.1 upd_same)
theorem at_ua (h : At K (WA K W oo) ms B ρ σ H) : At K W ms B ρ σ H := ⟨h.sub, h.live, h.env, h.p, h.xw, h.st, h.c.1⟩
theorem at0_ua {h0 hc : Hp} {ms0 : List Addr} {env : List Va} {os : List (Addr × List PyData)} (h : AtE0 K (WA K W oo) r h0 hc ms0 env σ H ms ρ os) : AtE0 K W r h0 hc ms0 env σ H ms ρ os :=
  ⟨h.vs, at_ua h.at_, h.hc, h.ws0, h.sub, h.nd, fun p hp => (by have o := h.own p hp; exact ⟨o.mem, o.nws, o.h0, o.val⟩), h.out⟩
theorem atE_ua {h0 hc : Hp} {ms0 : List Addr} {env : List Va} : AtE K (WA K W oo) r h0 hc ms0 env σ H → AtE K W r h0 hc ms0 env σ H
  | ⟨ms, ρ, os, h⟩ => ⟨ms, ρ, os, at0_ua h⟩
theorem endsOk_wa {h0 hc : Hp} {ms0 : List Addr} {P : Post} {D : Ends} (k : EndsOk K W r X h0 hc ms0 P D) : EndsOk K (WA K W oo) r X h0 hc ms0 P D := ⟨fun e σ H q a => k.nx e σ H q (atE_ua a), fun d v H q a s o => k.rt d v H q (at_ua a) s o, fun e σ H q a => k.bk e σ H q (atE_ua a), fun e σ H q a => k.ct e σ H q (atE_ua a), fun c e σ H q a => k.ex c e σ H q (atE_ua a),
  fun c f d e σ H dx v q ⟨ms, ρ, os, h, nd, od⟩ => k.exf c f d e σ H dx v q ⟨ms, ρ, os, at0_ua h, nd, od⟩, fun o v H q a s od => k.ro o v H q (at_ua a) s od⟩
theorem atE_wa {h0 hc : Hp} {ms0 : List Addr} {env : List Va} : AtE K W r h0 hc ms0 env σ H → AtE K (WA K W none) r h0 hc ms0 env σ H
  | ⟨ms, ρ, os, h⟩ => ⟨ms, ρ, os, h.vs, ⟨h.at_.sub, h.at_.live, h.at_.env, h.at_.p, h.at_.xw, h.at_.st, h.at_.c, fun c a e => (by cases e)⟩, h.hc, h.ws0, h.sub, h.nd, fun p hp => (by have o := h.own p hp; exact ⟨o.mem, o.nws, o.h0, o.val⟩), h.out⟩
theorem je_isD (i : Nat) {C : Addr} : JE K (WA K W oo) r (tCB (rIsD K) (tCons (tVar i) (tCons (tC (.ref C)) tNil))) (fun env Φ => isDK K oo env i C Φ) := fun env Φ φ ms B σ H g Q q => by
  have φ : isDK K oo env i C Φ := φ
  unfold isDK at φ
  split at φ
  · rename_i e
    have em : (env.map (low r))[i]? = some (.dat .none) := by rw [List.getElem?_map, e]; rfl
    obtain ⟨v, ev, ov⟩ := g.env.get em (by intro q; cases q)
    cases ov
    exact ⟨_, ev, .inl ⟨.non, .ref C, .type "NoneType", .ref C, false, rfl, .own C, .base .non, φ.1, q (.dat (.bool false)) _ H ⟨_, rfl, φ.2⟩ g (.refl H) (.bl _)⟩⟩
  · rename_i a e
    obtain ⟨o, c, b, eo, ec, xc, k, φ⟩ := φ
    have em : (env.map (low r))[i]? = some (.raw (.ref a)) := by rw [List.getElem?_map, e]; rfl
    obtain ⟨v, ev, ov⟩ := g.env.get em (by intro q; cases q)
    obtain rfl : v = .ref a := ov
    have ar := g.c.2 o a eo
    have fin := q (.dat (.bool b)) _ H ⟨_, rfl, φ⟩ g (.refl H) (.bl b)
    cases o with
    | ok d => cases ec
    | no c' =>
      cases ec
      obtain ⟨a', ea, h⟩ := ar
      cases ea
      exact ⟨_, ev, .inr ⟨a, c, none, .ref C, .ref C, b, rfl, cut_le _ _ h, (fun dx z => by cases z), xc, .own C, k, fin⟩⟩
    | fd c' f d =>
      cases ec
      obtain ⟨a', dx, w, ea, h, hx, _⟩ := ar
      cases ea
      exact ⟨_, ev, .inr ⟨a, c, some dx, .ref C, .ref C, b, rfl, cut_le _ _ h, (fun dx' z => by cases z; exact ⟨_, cut_le _ _ hx⟩), xc, .own C, k, fin⟩⟩
  · exact False.elim φ
theorem je_fld (i : Nat) {f : Str} : JE K (WA K W oo) r (tXk K f (tVar i)) (fun env Φ => fldK K oo env i f Φ) := fun env Φ φ ms B σ H g Q q => by
  have φ : fldK K oo env i f Φ := φ
  unfold fldK at φ
  split at φ
  · rename_i a e
    obtain ⟨c, d, eo, xc, hno, φ⟩ := φ
    have em : (env.map (low r))[i]? = some (.raw (.ref a)) := by rw [List.getElem?_map, e]; rfl
    obtain ⟨v, ev, ov⟩ := g.env.get em (by intro q; cases q)
    obtain rfl : v = .ref a := ov
    obtain ⟨a', dx, w, ea, h, hx, hd⟩ := g.c.2 _ a eo
    cases ea
    exact ⟨_, ev, a, c, dx, _, w, rfl, cut_le _ _ h, xc, hno, cut_le _ _ hx, by simp [List.lookup], q (.dat d) w H ⟨_, rfl, φ⟩ g (.refl H) hd⟩
  · exact False.elim φ
/-- return x, x data or a caught exception -/
theorem jc_retO (i : Nat) : JS K (WA K W oo) r X (tRet (tVar i)) (fun env P => roK oo env i P) := fun env P φ h0 hc ms0 σ H D ⟨ms, ρ, os, a⟩ k => by
  have φ : roK oo env i P := φ
  unfold roK at φ
  have ms_le : Same (cut (les os ms) H) (cut ms0 H) := cut_sub a.les_sub
  split at φ
  · rename_i d e
    have em : (env.map (low r))[i]? = some (.dat d) := by rw [List.getElem?_map, e]; rfl
    obtain ⟨v, ev, ov⟩ := a.lent.env.get em (by intro q; cases q)
    exact ⟨v, ev, k.ro (.ok d) v H φ a.end_ a.hcE (dp_mono ms_le _ _ ov)⟩
  · rename_i b e
    obtain ⟨o, eo, φ⟩ := φ
    have em : (env.map (low r))[i]? = some (.raw (.ref b)) := by rw [List.getElem?_map, e]; rfl
    obtain ⟨v, ev, ov⟩ := a.lent.env.get em (by intro q; cases q)
    obtain rfl : v = .ref b := ov
    exact ⟨_, ev, k.ro o _ H φ a.end_ a.hcE (a.end_.c.2 o b eo)⟩
  · exact False.elim φ
/-- try: .. except c as x: y = x, and what follows -/
theorem jc_tryD (hb : ∀ X : WX, JS K W r X (tb X) fb) (hr : ∀ oo, JS K (WA K W oo) r X ts (fr oo)) : JS K W r X (tSeq (fun D σ H => tb (wKeepD K c i (fun a => tAsg (tVar i) (gName j)) D) D σ H) ts)
    (fun env P => fb env { nx := fun e => fr none e P, rt := P.rt, ro := P.ro, ex := fun cl e => (PySem.W.exmOne K (.ref cl) c = some true ∧ i < e.length) ∧ ∀ a, fr (some (.no cl, a)) (tryE i j a e) P, exf := fun cl f d e => (PySem.W.exmOne K (.ref cl) c = some true ∧ i < e.length ∧ noList d = true) ∧ ∀ a, fr (some (.fd cl f d, a)) (tryE i j a e) P }) := fun env P φ h0 hc ms0 σ H D a k => by
  have key : ∀ {o : Sc.Out} {cl : Addr} {dd : Option Addr} {e : List Va} {σ1 : St} {H1 : Hp} {ms : List Addr} {ρ : List Sl} {os : List (Addr × List PyData)}, i < e.length → AtE0 K W r h0 hc ms0 e σ1 H1 ms ρ os → (∀ a, fr (some (o, a)) (tryE i j a e) P) →
      (∀ x, H1 x = none → x ∉ ms → Sc.ArgO K (cut ms (upd H1 x (ExD (.ref cl) dd x))) o (.ref x)) → ∀ x, H1 x = none → (fun a => tAsg (tVar i) (gName j)) x { nx := fun σ' H' => ({ D with nx := ts D } : Ends).nx (σ'.set i none) (upd H' x (ExD (.ref cl) dd x)), rt := fun _ _ => False, bk := fun _ _ => False, ct := fun _ _ => False } (σ1.set i (some (.ref x))) H1 := by
    intro o cl dd e σ1 H1 ms ρ os q2 a1 q3 hA x hx
    have ls : i < σ1.length := by rw [envOk_len a1.at_.env, vs_len a1.vs]; exact q2
    refine ⟨.ref x, List.getElem?_set_self ls, ?_⟩
    show ts D (((σ1.set i (some (.ref x))).set j (some (.ref x))).set i none) (upd H1 x (ExD (.ref cl) dd x))
    have s := same_put (o := ExD (.ref cl) dd x) hx
    have a2 := a1.go (.of_same s) (a1.at_.live.same s) (a1.at_.same s).p
    have xm : x ∉ ms := a1.at_.live.fresh hx
    obtain ⟨os1, v1, s1⟩ := a2.vs.emp_ i
    obtain ⟨os2, v2, s2⟩ := v1.obj_ x j
    obtain ⟨os3, v3, s3⟩ := v2.emp_ i
    have sl := (s3.trans s2).trans s1
    refine hr (some (o, x)) _ P (q3 x) h0 hc ms0 _ _ D ⟨ms, _, os3, v3, ⟨a2.at_.sub, a2.at_.live, ?_, a2.at_.p, a2.at_.xw, a2.at_.st, a2.at_.c, fun o' a e => ?_⟩, a2.hc, a2.ws0, a2.sub, (sl.map _).nodup a2.nd, fun p hp => ?_, fun p hp => a2.out p (sl.subset hp)⟩ (endsOk_wa k)
    · exact EnvOk.set (s := .emp) trivial i (EnvOk.set (s := .raw (.ref x)) (o := some (.ref x)) rfl j (EnvOk.set (s := .emp) trivial i a2.at_.env))
    · cases e
      exact hA x hx xm
    · have o := a2.own p (sl.subset hp)
      exact ⟨o.mem, o.nws, o.h0, o.val⟩
  refine hb _ env _ φ h0 hc ms0 σ H _ a ⟨fun e σ1 H1 q a1 => hr none e P q h0 hc ms0 σ1 H1 D (atE_wa a1) (endsOk_wa k), k.rt, fun e σ1 H1 q a1 => False.elim q, fun e σ1 H1 q a1 => False.elim q, fun cl e σ1 H1 ⟨⟨q1, q2⟩, q3⟩ ⟨ms, ρ, os, a1⟩ => ⟨q1, key q2 a1 q3 fun x hx xm => ⟨x, rfl, by rw [cut_out xm]; exact upd_same⟩⟩,
    fun cl f d e σ1 H1 dx v ⟨⟨q1, q2, q4⟩, q3⟩ ⟨ms, ρ, os, a1, nd, od⟩ z ed => ⟨q1, key q2 a1 q3 fun x hx xm => ⟨x, dx, v, rfl, by rw [cut_out xm]; exact upd_same, ?_, ?_⟩⟩, k.ro⟩
  · rw [cut_out nd, upd_ne (fun q => by rw [q, hx] at ed; cases ed)]
    exact ed
  · exact dp_mono (cut_put (.inr hx)) _ _ (a1.apart q4 od)
end
/-! defs that hand back data or a caught exception; defs that take one -/
def spV (K : PySem.W.Frag) (O : List PyData → Sc.Out → Prop) : Sp := fun vs H Q _ => ∃ (ms : List Addr) (ds : List PyData) (o : Sc.Out), Live ms H ∧ DpAll K (cut ms H) vs ds ∧ O ds o ∧ ∀ v H', Same H H' → Sc.ArgO K (cut ms H') o v → Q v H'
def spM (K : PySem.W.Frag) (G : Sc.Out → PyData → Prop) : Sp := fun vs H Q _ => ∃ (ms : List Addr) (o : Sc.Out) (a : Addr) (d : PyData), vs = [.ref a] ∧ Live ms H ∧ Sc.ArgO K (cut ms H) o (.ref a) ∧ clsO o ≠ none ∧ G o d ∧ ∀ v H', Same H H' → Dp K (cut ms H') v d → Q v H'
section
variable {K : PySem.W.Frag} {W : Wd} {r : Addr} {oo : Option (Sc.Out × Addr)} {X : WX} {ms : List Addr} {B : Bs} {H H' : Hp} {ρ : List Sl} {σ : St} {ts : TS} {i j n : Nat} {tA : TA} {fA : FA} {fr : Option (Sc.Out × Addr) → FS} {E E' : XK} {O : List PyData → Sc.Out → Prop} {G : Sc.Out → PyData → Prop}
/-- m(f(..)): f hands back an exception, m takes it -/
theorem je_callMC (ha : JA K W r n tA fA) : JE K W r (tCall (spM K G) [] E (tCons (tCall (spV K O) [] E' tA) tNil)) (fun env Φ => fA env fun ds => ∃ o, O ds o ∧ clsO o ≠ none ∧ ∃ d, G o d ∧ Φ d) := fun env Φ φ ms B σ H a Q q =>
  ha env _ φ ms B σ H a _ fun ds vs H1 ψ h1 x1 o1 => by
    obtain ⟨_, o, ho, hn, d, hg, ψ⟩ := ψ
    show spV K O (vs ++ []) H1 _ E'
    rw [List.append_nil]
    refine ⟨ms, ds, o, h1.live, o1, ho, fun v H2 s2 a2 => ?_⟩
    have ev : ∃ b, v = .ref b := by
      cases o with
      | ok d => exact absurd rfl hn
      | no c => obtain ⟨b, e, _⟩ := a2; exact ⟨b, e⟩
      | fd c f d => obtain ⟨b, _, _, e, _⟩ := a2; exact ⟨b, e⟩
    obtain ⟨b, rfl⟩ := ev
    refine ⟨ms, o, b, d, rfl, (h1.same s2).live, a2, hn, hg, fun v H3 s3 o3 => ?_⟩
    exact q (.dat d) v H3 ⟨_, rfl, ψ⟩ ((h1.same s2).same s3) ((x1.trans (.of_same s2)).trans (.of_same s3)) o3
/-- m(x), x a caught exception -/
def marK (oo : Option (Sc.Out × Addr)) (env : List Va) (i : Nat) (G : Sc.Out → PyData → Prop) (Φ : PyData → Prop) : Prop := match env[i]? with
  | some (.obj a) => ∃ o, oo = some (o, a) ∧ clsO o ≠ none ∧ ∃ d, G o d ∧ Φ d
  | _ => False
theorem je_callM (i : Nat) : JE K (WA K W oo) r (tCall (spM K G) [] E (tCons (tVar i) tNil)) (fun env Φ => marK oo env i G Φ) := fun env Φ φ ms B σ H a Q q => by
  have φ : marK oo env i G Φ := φ
  unfold marK at φ
  split at φ
  · rename_i b e
    obtain ⟨o, eo, hn, d, hg, φ⟩ := φ
    have em : (env.map (low r))[i]? = some (.raw (.ref b)) := by rw [List.getElem?_map, e]; rfl
    obtain ⟨v, ev, ov⟩ := a.env.get em (by intro q; cases q)
    obtain rfl : v = .ref b := ov
    refine ⟨_, ev, ?_⟩
    exact ⟨ms, o, b, d, rfl, a.live, a.c.2 o b eo, hn, hg, fun v H3 s3 o3 => q (.dat d) v H3 ⟨_, rfl, φ⟩ (a.same s3) (.of_same s3) o3⟩
  · exact False.elim φ
/-- x = f(..), f hands back data or an exception -/
theorem jc_asgV (j : Nat) (ha : JA K W r n tA fA) (hr : ∀ oo, JS K (WA K W oo) r X ts (fr oo)) : JS K W r X (tSeq (tAsg (tCall (spV K O) [] E tA) (gName j)) ts)
    (fun env P => fA env fun ds => ∃ o, O ds o ∧ match o with
      | .ok d => noList d = true ∧ fr none (env.set j (.dat d)) P
      | .no c => ∀ a, fr (some (.no c, a)) (env.set j (.obj a)) P
      | .fd c f d => noList d = true ∧ ∀ a, fr (some (.fd c f d, a)) (env.set j (.obj a)) P) := fun env P φ h0 hc ms0 σ H D ⟨ms, ρ, os, a⟩ k =>
  ha _ _ φ _ _ σ H a.lent _ fun ds vs H1 ψ g x o1 => by
    obtain ⟨_, o, ho, ψ⟩ := ψ
    show spV K O (vs ++ []) H1 _ E
    rw [List.append_nil]
    refine ⟨les os ms, ds, o, g.live, o1, ho, fun v H2 s2 a2 => ?_⟩
    have a' := a.backL (g.same s2) (x.trans (.of_same s2))
    have obj : ∀ b, v = .ref b → Sc.ArgO K (cut ms H2) o (.ref b) → fr (some (o, b)) (env.set j (.obj b)) P → ts D (σ.set j (some v)) H2 := fun b ev ar f => by
      subst ev
      obtain ⟨os1, v1, s1⟩ := a'.vs.obj_ b j
      refine hr (some (o, b)) _ P f h0 hc ms0 _ _ D ⟨ms, _, os1, v1, ⟨a'.at_.sub, a'.at_.live, EnvOk.set (s := .raw (.ref b)) (o := some (.ref b)) rfl j a'.at_.env, a'.at_.p, a'.at_.xw, a'.at_.st, a'.at_.c, fun o' a e => ?_⟩, a'.hc, a'.ws0, a'.sub, (s1.map _).nodup a'.nd, fun p hp => ?_, fun p hp => a'.out p (s1.subset hp)⟩ (endsOk_wa k)
      · cases e
        exact ar
      · have o := a'.own p (s1.subset hp)
        exact ⟨o.mem, o.nws, o.h0, o.val⟩
    have out : ∀ {b : Addr} {u : HO}, cut (les os ms) H2 b = some u → (∀ xs, u ≠ .lst xs) → cut ms H2 b = some u := fun {b u} h hl => by
      have n1 : b ∉ les os ms := fun z => by rw [cut_in z] at h; cases h
      rw [cut_out n1] at h
      have n2 : b ∉ ms := fun z => by
        by_cases q : b ∈ os.map (·.1)
        · obtain ⟨xs, e⟩ := a'.lists b q
          rw [h] at e
          exact hl xs (Option.some.inj e)
        · exact n1 (mem_les.mpr ⟨z, q⟩)
      rw [cut_out n2]
      exact h
    show ts D (σ.set j (some v)) H2
    cases o with
    | ok d =>
      obtain ⟨os', a3, _⟩ := a'.set (a'.apart ψ.1 a2) j
      exact hr none _ P ψ.2 h0 hc ms0 _ _ D (atE_wa ⟨_, _, _, a3⟩) (endsOk_wa k)
    | no c =>
      obtain ⟨b, e, h⟩ := a2
      exact obj b e ⟨b, rfl, out h (fun xs z => by unfold ExD at z; cases z)⟩ (ψ b)
    | fd c f d =>
      obtain ⟨b, dx, w, e, h, hx, hd⟩ := a2
      exact obj b e ⟨b, dx, w, rfl, out h (fun xs z => by unfold ExD at z; cases z), out hx (fun xs z => by cases z), a'.apart ψ.1 hd⟩ (ψ.2 b)
end
end Wp
/-! ### defs -/
namespace Wp
open PySem L2 Fw
open PyProof.Rows (envOfC)
section
variable {K : PySem.W.Frag} {P : Program} {w : World} {mg : Str → Option Value} {base : Heap}
theorem pureV {x qual : Str} {st : Stmt} {fa : Addr} {fd : FuncData} {N ps : List Str} {k : Nat} {O : List PyData → Sc.Out → Prop} (F : Fun K x qual st fa fd) (S : FnScope N ps (defScope st)) (hG : ∀ ds o, O ds o → ds.length = ps.length)
    (hb : ∀ (cdv : Value) (A : Around) (outer : List Env) (s : Shared) (H : Hp) (E : XK), Room k (A.deeper (envOfC qual (defScope st) s.heap.objs.size fa cdv)) →
      ∃ t f, PSs (cxOf CX0 P w K mg base N qual (defScope st) fa cdv A outer s H E).nox (defBody st) t ∧ JS K W0 0 (fun _ _ _ _ => False) t f ∧ ∀ ds o, O ds o → f (args N.length ds) { nx := fun _ => o = .ok .none, rt := fun d => o = .ok d, ro := fun o' => o = o' }) : FnOk P w K mg base CX0 (k + 1) fa fd ps (spV K O) := by
  refine F.ok S (fun vs H Q E h => ?_) fun cdv A outer s H vs Q E hr h => ?_
  · obtain ⟨ms, ds, o, l, od, g, _⟩ := h
    rw [dpa_len od, hG ds o g]
  · obtain ⟨ms, ds, o, l, od, g, q⟩ := h
    obtain ⟨t, f, ht, hj, hf⟩ := hb cdv A outer s H E hr
    exact ⟨t, ht, hj _ _ (hf ds o g) H (cut ms H) ms _ H _ (atE_start (at_start l od)) ⟨fun e σ H' r ⟨_, _, _, a⟩ => q .non H' a.end_.xw.same (by subst r; exact .non), fun d' v H' r a s o => q v H' a.xw.same (by subst r; exact o), fun e σ H' r a => False.elim r, fun e σ H' r a => False.elim r, fun c e σ H' r a => False.elim r, fun c f d e σ H' dx v q => False.elim q, fun o' v H' r a s od => q v H' a.xw.same (by subst r; exact od)⟩⟩
theorem pureM {x qual : Str} {st : Stmt} {fa : Addr} {fd : FuncData} {N : List Str} {p : Str} {k : Nat} {G : Sc.Out → PyData → Prop} (F : Fun K x qual st fa fd) (S : FnScope N [p] (defScope st))
    (hb : ∀ (cdv : Value) (A : Around) (outer : List Env) (s : Shared) (H : Hp) (E : XK), Room k (A.deeper (envOfC qual (defScope st) s.heap.objs.size fa cdv)) →
      ∃ t, PSs (cxOf CX0 P w K mg base N qual (defScope st) fa cdv A outer s H E).nox (defBody st) t ∧ ∀ oo, ∃ f, JS K (WA K W0 oo) 0 (fun _ _ _ _ => False) t f ∧ ∀ o a d, G o d → clsO o ≠ none → oo = some (o, a) → f (.obj a :: List.replicate (N.length - 1) .emp) { nx := fun _ => d = .none, rt := (· = d) }) : FnOk P w K mg base CX0 (k + 1) fa fd [p] (spM K G) := by
  refine F.ok S (fun vs H Q E h => ?_) fun cdv A outer s H vs Q E hr h => ?_
  · obtain ⟨ms, o, a, d, rfl, _⟩ := h
    rfl
  · obtain ⟨ms, o, a, d, rfl, l, ar, hn, g, q⟩ := h
    obtain ⟨t, ht, hx⟩ := hb cdv A outer s H E hr
    obtain ⟨f, hj, hf⟩ := hx (some (o, a))
    have at0 : AtE K (WA K W0 (some (o, a))) 0 H (cut ms H) ms (.obj a :: List.replicate (N.length - 1) .emp) (L2.start N [.ref a]) H := by
      refine ⟨ms, .raw (.ref a) :: List.replicate (N.length - 1) .emp, [], .obj a (vs_args [] _), ⟨fun _ z => (by cases z), l, ?_, trivial, .refl H, Same.refl _, trivial, fun o' a' e => (by cases e; exact ar)⟩, Same.refl _, (fun _ z => by cases z), fun _ z => z, List.nodup_nil, (fun p hp => nomatch hp), (fun p hp => nomatch hp)⟩
      exact .cons rfl (EnvOk.emp _)
    exact ⟨t, ht, hj _ _ (hf o a d g hn rfl) H (cut ms H) ms _ H _ at0 ⟨fun e σ H' r ⟨_, _, _, a⟩ => (by subst r; exact q .non H' a.end_.xw.same .non), fun d' v H' r a s o => (by subst r; exact q v H' a.xw.same o), fun e σ H' r a => False.elim r, fun e σ H' r a => False.elim r, fun c e σ H' r a => False.elim r, fun c f d e σ H' dx v q => False.elim q, fun o' v H' r => False.elim r⟩⟩
end
end Wp
namespace Fw
open PySem PySem.Spec L2
open PyProof.Rows
section
variable {X : Cx} {C fI : Addr} {fd : FuncData} {k : Nat} {x f xp : Str} {p pos : Pos} {e : Expr} {es : List Expr} {ta : TA}
/-- C(e), C's __init__ storing e as f -/
theorem pmk_sup (F1 : FnOk X.prog X.w X.K X.mg X.base CX0 k fI fd [("self" : Str), xp] (spSup C f)) (T : OexC X.K C) (iC : PySem.W.findIn X.K (.ref C) "__init__" = some (some (.ref fI))) (tI : PySem.W.typeIn X.K (.ref fI) = some (.type "function"))
    (hr : Room (k + 1) X.A) (hb : Binds X.K fd [("self" : Str), xp] []) (hm : X.mg x = some (.ref C)) (ha : PA X (e :: es) ta) (hg : Gl X x := by rfl) (hdb : (x == ("__debug__" : Str)) = false := by kernel_rfl)
    (he : starEach (e :: es) X.env = (false, eval e X.env) :: starEach es X.env := by kernel_rfl) (hpl : (backTo pos (starEach es X.env)).any (·.1) = false := by kernel_rfl) :
    PMk X (.Call (.Name x p) (e :: es) [] pos) (tMkO C (spSup C f) [] ta) := pmk_oex (CX := CX0) T iC tI F1 hr hb .nil (fun _ _ _ _ _ _ _ z => z.elim) hg hm ha hdb he hpl
end
end Fw

/-! t[-n:] -/
namespace Wp
open PySem L2 Fw
open PyProof.Rows
section
variable {K : PySem.W.Frag} {W : Wd} {ρ : List Sl} {ta te tb : TE} {ds : List PyData} {r : Addr} {fa fb : FE} {n : Int}
theorem dpa_drop2 {H : Hp} : ∀ {ds : List PyData} {vs : List V} (n : Nat), DpAll K H vs ds → DpAll K H (vs.drop n) (ds.drop n)
  | [], _, n, h => by cases h; simp; exact .nil
  | d :: ds, _, 0, h => by cases h with | cons a t => exact .cons a t
  | d :: ds, _, n + 1, h => by cases h with | cons a t => exact dpa_drop2 n t
theorem ev_last0 (ha : Evd K W ta ρ (.tuple ds)) (hb : Evd K W tb ρ (.int n)) (hn : n < 0) : Evd K W (tSl (rSlA K) ta (tPart tb) tNoPart) ρ (.tuple (ds.drop (ds.length - (-n).toNat))) := fun ms B σ H a Q q => ha ms B σ H a _ fun v H1 h1 x1 o1 => hb ms B σ H1 h1 _ fun w H2 h2 x2 o2 => by
  cases o2
  have o3 := dp_mono (x2.cut h1.sub) _ _ o1
  refine ⟨n, rfl, ?_⟩
  have o4 := o3
  have sx1 : ∀ m : Nat, HT.sIx m 0 (some n) = m - (-n).toNat := fun m => by
    show (if n < 0 then (n + (m : Int)).toNat else min n.toNat m) = m - (-n).toNat
    rw [if_pos hn]
    omega
  cases o3 with
  | tup sx dx =>
    have lx := dpa_len dx
    refine ⟨_, _, rfl, sqt_mono cut_le sx, fun hw => q _ H2 h2 (x1.trans x2) ?_, fun _ p hp => q _ _ (h2.same (same_put hp)) ((x1.trans x2).trans (.of_same (same_put hp))) ?_⟩
    · have h2 := hw.1
      rw [sx1, lx] at h2
      rw [h2, List.drop_zero]
      exact o4
    · unfold cutV
      rw [HT.sIx_none, sx1, lx, List.take_of_length_le (by rw [List.length_drop, lx]; omega)]
      exact Sl.new_tup h2.live hp (dpa_drop2 _ dx)
def lastK (x y : PyData) (Φ : PyData → Prop) : Prop := tupK x fun ds => intK y fun n => n < 0 ∧ Φ (.tuple (ds.drop (ds.length - (-n).toNat)))
theorem je_lastT (ha : JE K W r ta fa) (hb : JE K W r tb fb) : JE K W r (tSl (rSlA K) ta (tPart tb) tNoPart) (fun env Φ => fa env fun x => fb env fun y => lastK x y Φ) := je_lift2 (F := fun a b => tSl (rSlA K) a (tPart b) tNoPart) ha hb (fun σ H Q h => h) fun x y Φ h => by
  obtain ⟨ds, rfl, h1⟩ := tupK_of h
  obtain ⟨n, rfl, hn, h2⟩ := intK_of h1
  exact ⟨_, h2, fun W' a b ρ e1 e2 => ev_last0 e1 e2 hn⟩
end
end Wp

/-! Wp: (*l, e, ..), l a list. -/
namespace Wp
open PySem L2 Fw
open PyProof.Rows
section
variable {K : PySem.W.Frag} {W : Wd} {r : Addr} {te : TE} {fa : FE} {tA : TA} {fA : FA} {n : Nat}
theorem je_tupStar (ha : JE K W r te fa) (hb : JA K W r n tA fA) : JE K W r (tTup (StX.tStar K te tA)) (fun env Φ => fa env fun x => lstK x fun xs => fA env fun ds => xs.length + ds.length ≤ 100000 ∧ Φ (.tuple (xs ++ ds))) := fun env Φ φ => by
  have e : EnD K W (StX.tStar K te tA) (env.map (low r)) (fun ds => ds.length ≤ 100000 ∧ Φ (.tuple ds)) := fun ms B σ H g Q q => ha env _ φ ms B σ H g _ fun s v H1 ψ g1 x1 o1 => by
    obtain ⟨x, rfl, ψ⟩ := ψ
    obtain ⟨xs, rfl, ψ⟩ := lstK_of ψ
    cases o1 with
    | @lst a vs _ hs hx =>
      refine ⟨a, vs, rfl, .inr (sql_mono cut_le hs), hb env _ ψ ms B σ H1 g1 _ fun ds ws H2 ψ2 g2 x2 o2 => ?_⟩
      obtain ⟨_, hl, ψ2⟩ := ψ2
      exact q (xs ++ ds) _ H2 ⟨by rw [List.length_append]; exact hl, ψ2⟩ g2 (x1.trans x2) (dpa_app (dpa_mono (x2.cut g1.sub) _ _ hx) o2)
  exact (en_tup e fun ds q => q.1).imp fun s ⟨d, e, ds, e2, q⟩ => ⟨d, e, by rw [e2]; exact q.2⟩
end
end Wp

/-! Wp: x, y = a, a new list, by a tuple that is made and taken apart (targets that are cells). -/
namespace Wp
open PySem L2 Fw
open PyProof.Rows
section
variable {K : PySem.W.Frag} {W : Wd} {X : WX} {r : Addr} {ta tb : TE} {fa fb : FE} {fs : FA}
theorem jc_tupEF (i j : Nat) (h2 : JE K W r ta fa) (h : JF K W r tb fs) : JS K W r X (tAsg (tTup (tCons ta (tCons tb tNil))) (gTup K 2 (gCons (gName i) (gCons (gName j) gNil)))) (fun env P => fa (env.map hid) fun d => fs (env.map hid) fun ds => P.nx ((env.set i (.dat d)).set j (.own ds))) := fun env P φ h0 hc ms0 σ H D ⟨ms, ρ, os, a⟩ k =>
  h2 _ _ φ _ _ σ H a.hidden _ fun s v H1 ψ g x o => by
    obtain ⟨d, rfl, ψ⟩ := ψ
    have a1 := a.backH g x
    refine h _ _ ψ _ _ σ H1 g _ fun ds p vs H2 ψ2 g2 x2 hp e od => ?_
    refine ⟨(show 2 ≤ sizeLine by decide), fun q hq => ⟨q, [v, .ref p], rfl, .inl (.inl upd_same), rfl, v, [.ref p], rfl, .ref p, [], rfl, rfl, ?_⟩⟩
    have s3 := same_put (o := .tup [v, .ref p]) hq
    have g3 := g2.same s3
    have x3 := x2.trans (.of_same s3)
    have o2 : Dp K (cut ms (upd H2 q (.tup [v, .ref p]))) v d := dp_mono (x3.cut g.sub) _ _ o
    obtain ⟨os', a2, _⟩ := a1.set o i
    have e3 : (upd H2 q (.tup [v, .ref p])) p = some (.lst vs) := s3 _ _ e
    obtain ⟨os2, a3⟩ := a2.new (σ' := σ) (ρ' := ρ) g3.live g3.p x3 hp e3 (dpa_mono (cut_put (.inr hq)) _ _ od) j
    exact k.nx _ _ _ ψ2 ⟨_, _, _, a3⟩
def ixQK (x y : PyData) (Φ : PyData → Prop) : Prop := seqK x fun ds => intK y fun i => atK ds i Φ
/-- q[i], q a list or a tuple -/
theorem je_ixQ (ha : JE K W r ta fa) (hb : JE K W r tb fb) : JE K W r (tOp (rIx K) ta tb) (fun env Φ => fa env fun x => fb env fun y => ixQK x y Φ) := je_op ha hb fun x y Φ h => by
  cases x with
  | list ds =>
    obtain ⟨i, rfl, h2⟩ := intK_of (show intK y fun i => atK ds i Φ from h)
    obtain ⟨d, e, h3⟩ := of_atK h2
    exact ⟨d, h3, fun ms H x y l hx hy Q q => .inl (rs_ixL e ms H x y l hx hy Q q)⟩
  | tuple ds =>
    obtain ⟨i, rfl, h2⟩ := intK_of (show intK y fun i => atK ds i Φ from h)
    obtain ⟨d, e, h3⟩ := of_atK h2
    exact ⟨d, h3, fun ms H x y l hx hy Q q => .inr (.inl (rs_ixT e ms H x y l hx hy Q q))⟩
  | _ => exact False.elim h
def pLT (d : PyData) : Bool := pList d || pTup d
theorem lt_kit (d : PyData) : PySem.W.kitAny K (.type (tyName d)) [.type "list", .type "tuple"] = some (pLT d) := by
  have e1 : kitB (tyName d) "list" = some (pList d) := by cases d <;> simp only [tyName, pList] <;> decide +kernel
  have e2 : kitB (tyName d) "tuple" = some (pTup d) := by cases d <;> simp only [tyName, pTup] <;> decide +kernel
  have k1 : PySem.W.kitOne K (.type (tyName d)) (.type "list") = some (pList d) := kit_ty e1
  have k2 : PySem.W.kitOne K (.type (tyName d)) (.type "tuple") = some (pTup d) := kit_ty e2
  unfold PySem.W.kitAny
  rw [k1]
  unfold pLT
  cases pList d with
  | true => rfl
  | false =>
    show PySem.W.kitAny K _ _ = _
    unfold PySem.W.kitAny
    rw [k2]
    cases pTup d <;> rfl
/-- isinstance(x, (list, tuple)) -/
theorem je_isLT (ha : JE K W r ta fa) : JE K W r (tCB (rIsiT K) (tCons ta (tCons (tTup (tCons (tC (.ty "list")) (tCons (tC (.ty "tuple")) tNil))) tNil))) (fun env Φ => fa env fun d => Φ (.bool (pLT d))) := je_lift (F := fun a => tCB (rIsiT K) (tCons a (tCons (tTup (tCons (tC (.ty "list")) (tCons (tC (.ty "tuple")) tNil))) tNil))) (op := fun d Φ => Φ (.bool (pLT d))) ha (fun σ H Q h => h) fun x Φ h => ⟨_, h, fun W' a ρ e => ev_isi2 e (lt_kit x)⟩
end
end Wp

/-! Wp: repr of a bool, of a list or tuple. -/
namespace Wp
open PySem L2 Fw
def reprBK (ds : List PyData) (Φ : PyData → Prop) : Prop := oneK ds fun d => blK d fun b => Φ (.str (if b then "True" else "False"))
def Shows (d : PyData) : Prop := ∃ C n, Say C n d ∧ C ≤ 10000000 ∧ n ≤ 60 ∧ ((∃ ds, d = .list ds) ∨ ∃ ds, d = .tuple ds)
def reprDK (ds : List PyData) (Φ : PyData → Prop) : Prop := oneK ds fun d => Shows d ∧ Φ (.str d.shown)
section
variable {K : PySem.W.Frag} {W : Wd} {r : Addr} {tA : TA} {fA : FA}
theorem je_reprB (h : JA K W r 1 tA fA) : JE K W r (tCB rReprB tA) (fun env Φ => fA env fun ds => reprBK ds Φ) := je_liftA (F := fun a => tCB rReprB a) h (fun σ H Q h => h) fun ds Φ _ h => by
  obtain ⟨d, rfl, h⟩ := oneK_of h
  obtain ⟨b, rfl, h⟩ := blK_of h
  exact ⟨_, h, fun W' a ρ e => ev_cb e (rc1 fun ms H v l o Q q => by
    cases o
    exact ⟨b, rfl, q _ H (Same.refl H) (.str _)⟩)⟩
theorem je_reprD (h : JA K W r 1 tA fA) : JE K W r (tCB (rReprD K) tA) (fun env Φ => fA env fun ds => reprDK ds Φ) := je_liftA (F := fun a => tCB (rReprD K) a) h (fun σ H Q h => h) fun ds Φ _ h => by
  obtain ⟨d, rfl, ⟨C, n, s, hC, hn, hr⟩, h⟩ := oneK_of h
  refine ⟨_, h, fun W' a ρ e => ?_⟩
  intro ms B σ H g Q q
  refine e ms B σ H g _ fun vs H1 g1 x1 o1 => ?_
  cases o1 with
  | cons o1 o2 =>
    cases o2
    exact ev_say (te := fun _ H Q => Q _ H) (d := d) (W := WC W' K _ d) (ρ := []) (fun ms B σ H a Q q => q _ H a (.refl H) a.c.2) s hC hn hr ms ⟨H1, H1⟩ [] H1 ⟨g1.sub, g1.live, .nil, g1.p, .refl H1, Same.refl _, ⟨g1.c, o1⟩⟩ _ fun v H2 h2 x2 o2 => q v H2 (g1.go x2 h2.live h2.p) (x1.trans x2) o2
end
section
variable {K : PySem.W.Frag} {W : Wd} {r : Addr} {ρ : List Sl} {ta tb : TE} {fa fb : FE} {ds : List PyData} {j : Nat}
theorem ev_tillA (ha : Evd K W ta ρ (.list ds)) (hb : Evd K W tb ρ (.int (j : Int))) : Evd K W (tSl (rSlL K) ta tNoPart (tPart tb)) ρ (.list (ds.take j)) := fun ms B σ H a Q q => ha ms B σ H a _ fun v H1 h1 x1 o1 => hb ms B σ H1 h1 _ fun w H2 h2 x2 o2 => by
  cases o2
  exact ⟨_, rfl, rs_till (dp_mono (x2.cut h1.sub) _ _ o1) h2.live fun v H3 s3 o3 => q v H3 (h2.same s3) ((x1.trans x2).trans (.of_same s3)) o3⟩
theorem ev_fromA (ha : Evd K W ta ρ (.list ds)) (hb : Evd K W tb ρ (.int (j : Int))) : Evd K W (tSl (rSlL K) ta (tPart tb) tNoPart) ρ (.list (ds.drop j)) := fun ms B σ H a Q q => ha ms B σ H a _ fun v H1 h1 x1 o1 => hb ms B σ H1 h1 _ fun w H2 h2 x2 o2 => by
  cases o2
  have o3 := dp_mono (x2.cut h1.sub) _ _ o1
  cases o3 with
  | lst sx dx =>
    refine ⟨_, rfl, _, _, rfl, sql_mono cut_le sx, fun p hp => q _ _ (h2.same (same_put hp)) ((x1.trans x2).trans (.of_same (same_put hp))) ?_⟩
    rw [cut_natF]
    exact Sl.new_lst h2.live hp (dpa_drop j dx)
def tillLK (x y : PyData) (Φ : PyData → Prop) : Prop := lstK x fun ds => intK y fun i => 0 ≤ i ∧ Φ (.list (ds.take i.toNat))
theorem je_tillL (ha : JE K W r ta fa) (hb : JE K W r tb fb) : JE K W r (tSl (rSlL K) ta tNoPart (tPart tb)) (fun env Φ => fa env fun x => fb env fun y => tillLK x y Φ) := je_lift2 (F := fun a b => tSl (rSlL K) a tNoPart (tPart b)) ha hb (fun σ H Q h => h) fun x y Φ h => by
  obtain ⟨ds, rfl, h1⟩ := lstK_of h
  obtain ⟨i, rfl, h0, h2⟩ := intK_of h1
  exact ⟨_, h2, fun W' a b ρ e1 e2 => ev_tillA e1 (evd_eq e2 (by congr 1; omega))⟩
def fromLK (x y : PyData) (Φ : PyData → Prop) : Prop := lstK x fun ds => intK y fun i => 0 ≤ i ∧ Φ (.list (ds.drop i.toNat))
theorem je_fromL (ha : JE K W r ta fa) (hb : JE K W r tb fb) : JE K W r (tSl (rSlL K) ta (tPart tb) tNoPart) (fun env Φ => fa env fun x => fb env fun y => fromLK x y Φ) := je_lift2 (F := fun a b => tSl (rSlL K) a (tPart b) tNoPart) ha hb (fun σ H Q h => h) fun x y Φ h => by
  obtain ⟨ds, rfl, h1⟩ := lstK_of h
  obtain ⟨i, rfl, h0, h2⟩ := intK_of h1
  exact ⟨_, h2, fun W' a b ρ e1 e2 => ev_fromA e1 (evd_eq e2 (by congr 1; omega))⟩
end
section
variable {K : PySem.W.Frag} {W : Wd} {r : Addr} {X : WX} {te : TE} {fs : FA}
/-- x = a new list, which reads lists of one's own; x is data from now on -/
theorem jc_asgLD (i : Nat) (h : JF K W r te fs) : JS K W r X (tAsg te (gName i)) (fun env P => fs env fun ds => (noLists ds = true ∧ i < env.length) ∧ P.nx (env.set i (.dat (.list ds)))) := fun env P φ h0 hc ms0 σ H D ⟨ms, ρ, os, a⟩ k =>
  h _ _ φ _ _ σ H a.lent _ fun ds p vs H1 ψ g x hp e o => by
    obtain ⟨⟨nl, il⟩, ψ⟩ := ψ
    have b1 := a.backL g x
    have hL : ∀ z ∈ os.map (·.1), ∃ xs, H1 z = some (.lst xs) := b1.lists
    have o2 : DpAll K (cut (os.map (·.1) ++ (p :: les os ms)) H1) vs ds := apart_nolists hL nl o
    obtain ⟨os', a1⟩ := a.new (σ' := σ) (ρ' := ρ) b1.at_.live b1.at_.p x hp e (dpa_mono (cut_sub fun z hz => by
      rw [List.mem_append, List.mem_cons]
      rcases List.mem_cons.mp hz with q | q
      · exact .inr (.inl q)
      · rcases List.mem_append.mp (les_cover (os := os) z q) with w | w
        · exact .inl w
        · exact .inr (.inr w)) _ _ o2) i
    obtain ⟨ms', ρ', os2, a2⟩ := a1.frz (List.getElem?_set_self il)
    rw [List.set_set] at a2
    exact k.nx _ _ _ ψ ⟨_, _, _, a2⟩
end
end Wp

/-! Wp: calls by keywords alone of defs that may raise. -/
namespace Sc
open PySem L2 Fw
def g_1 (us ws : List Value) : List Value := match us, ws with | [], [a] => [a] | _, _ => []
def gV_1 (us ws : List V) : List V := match us, ws with | [], [a] => [a] | _, _ => []
def g_2 (us ws : List Value) : List Value := match us, ws with | [], [a, b] => [b, a] | _, _ => []
def gV_2 (us ws : List V) : List V := match us, ws with | [], [a, b] => [b, a] | _, _ => []
theorem kb_1 {K : PySem.W.Frag} {fd : FuncData} {x : Str} (h : ∀ (s : Shared) (a : Value), BindsTo s fd ⟨[], [(x, a)]⟩ [(x, a)]) : KBinds K fd [x] [x] g_1 gV_1 := by
  refine ⟨fun s us ws _ hl => ?_, fun {vs us zs ws} r rz => ?_⟩
  · revert hl
    unfold g_1
    split
    · exact fun _ => h s _
    · exact fun q => nomatch q
  · cases r with
    | cons _ _ => exact .nil
    | nil =>
      cases rz with
      | nil => exact .nil
      | cons a rz =>
        cases rz with
        | nil => exact .cons a .nil
        | cons b rz => exact .nil
theorem kb_2 {K : PySem.W.Frag} {fd : FuncData} {x y : Str} (h : ∀ (s : Shared) (a b : Value), BindsTo s fd ⟨[], [(y, a), (x, b)]⟩ [(x, b), (y, a)]) : KBinds K fd [x, y] [y, x] g_2 gV_2 := by
  refine ⟨fun s us ws _ hl => ?_, fun {vs us zs ws} r rz => ?_⟩
  · revert hl
    unfold g_2
    split
    · exact fun _ => h s _ _
    · exact fun q => nomatch q
  · cases r with
    | cons _ _ => exact .nil
    | nil =>
      cases rz with
      | nil => exact .nil
      | cons a rz =>
        cases rz with
        | nil => exact .nil
        | cons b rz =>
          cases rz with
          | nil => exact .cons b (.cons a .nil)
          | cons c rz => exact .nil
end Sc
namespace Fw
open PySem L2
/-- f(k = v, ..), keywords alone, of a def that may raise, which does not here -/
theorem pe_fnKX {X : Cx} {x : Str} {p pos : Pos} {kws : List Keyword} {tk : TA} {k : Nat} {f : Addr} {fd : FuncData} {ps ks : List Str} {sp : Sp} {g : List Value → List Value → List Value} {gV : List V → List V → List V}
    (F : FnOk X.prog X.w X.K X.mg X.base (L2.CX X.prog X.w) k f fd ps sp) (hr : Room k X.A) (hg : Gl X x) (hm : X.mg x = some (.ref f)) (hk : PySem.W.keepIn X.K (.ref f) = true) (hb : KBinds X.K fd ps ks g gV) (hkw : PK X kws tk)
    (ha : (backToKw pos (keywordEach kws X.env)).all (·.1.isSome) = true := by rfl) (hn : (backToKw pos (keywordEach kws X.env)).filterMap (·.1) = ks := by rfl)
    (hd : (x == ("__debug__" : Str)) = false := by decide) (hp : ((backTo pos (starEach [] X.env)).any (·.1) || (backToKw pos (keywordEach kws X.env)).any (·.1.isNone)) = false := by rfl) :
    PE X (.Call (.Name x p) [] kws pos) (tCallK sp gV E0 tNil tk) := ⟨fun pins s σ H Q I h => by
  refine wpAny_Call_Name_kw (ld_glob I hg hm (PySem.W.callWith_KW0 (h₀ := X.base) I.ok.mod.kin hk ha (thn (hkw.run pos pins s σ H _ I h) fun ws sb hz => ?_) hp) hd)
  obtain ⟨zs, Hb, Ib, rz, qz⟩ := hz
  refine ⟨Ib.kIn, ?_⟩
  rw [hn]
  exact run_fnk (us := []) (vs := []) F hr hb passL Ib .nil rz qz⟩
end Fw
namespace Wp
open PySem L2 Fw
section
variable {K : PySem.W.Frag} {W : Wd} {r : Addr} {tA : TA} {fA : FA} {E : XK} {O : List PyData → Sc.Out → Prop}
theorem je_callK1 (ha : JA K W r 1 tA fA) : JE K W r (tCallK (Sc.spX K O) Sc.gV_1 E tNil tA) (fun env Φ => fA env fun ds => oneK ds fun a => ∃ d, O [a] (.ok d) ∧ Φ d) := fun env Φ φ ms B σ H g Q q => by
  show tA σ H _
  refine ha env _ φ ms B σ H g _ fun ds vs H1 ψ h1 x1 o1 => ?_
  obtain ⟨_, ψ⟩ := ψ
  obtain ⟨a, rfl, d, ho, ψ⟩ := oneK_of ψ
  cases o1 with
  | cons o1 on =>
    cases on
    exact ⟨ms, [a], .ok d, h1.live, .cons o1 .nil, ho, fun d' e v H2 s2 o2 => by cases e; exact q (.dat d) v H2 ⟨d, rfl, ψ⟩ (h1.same s2) (x1.trans (.of_same s2)) o2, fun c e => (nomatch e), fun c f d e => (nomatch e)⟩
theorem je_callK2 (ha : JA K W r 2 tA fA) : JE K W r (tCallK (Sc.spX K O) Sc.gV_2 E tNil tA) (fun env Φ => fA env fun ds => twoK ds fun a b => ∃ d, O [b, a] (.ok d) ∧ Φ d) := fun env Φ φ ms B σ H g Q q => by
  show tA σ H _
  refine ha env _ φ ms B σ H g _ fun ds vs H1 ψ h1 x1 o1 => ?_
  obtain ⟨_, ψ⟩ := ψ
  obtain ⟨a, b, rfl, d, ho, ψ⟩ := twoK_of ψ
  cases o1 with
  | cons o1 on =>
    cases on with
    | cons o2 on =>
      cases on
      exact ⟨ms, [b, a], .ok d, h1.live, .cons o2 (.cons o1 .nil), ho, fun d' e v H2 s2 o2 => by cases e; exact q (.dat d) v H2 ⟨d, rfl, ψ⟩ (h1.same s2) (x1.trans (.of_same s2)) o2, fun c e => (nomatch e), fun c f d e => (nomatch e)⟩
end
end Wp

/-! Wp: in and not in, of strings. -/
namespace Wp
open PySem L2 Fw
def inSK (neg : Bool) (x y : PyData) (Φ : PyData → Prop) : Prop := strK x fun n => ∃ ns : List Str, (y = .list (ns.map .str) ∨ y = .tuple (ns.map .str)) ∧ Φ (.bool (ng neg (decide (n ∈ ns))))
theorem inV_strs {n : Str} {ns : List Str} : inV (V.str n) (ns.map V.str) = decide (n ∈ ns) := by
  unfold inV
  rw [Bool.eq_iff_iff, List.any_eq_true, decide_eq_true_eq]
  constructor
  · rintro ⟨y, hy, e⟩
    obtain ⟨m, hm, rfl⟩ := List.mem_map.mp hy
    have e : (n == m) = true ∨ (m == n) = true := by first | exact .inl e | exact .inr e
    rcases e with e | e
    · rw [beq_iff_eq.mp e]; exact hm
    · rw [← beq_iff_eq.mp e]; exact hm
  · exact fun hn => ⟨.str n, List.mem_map_of_mem hn, show (n == n) = true from beq_self_eq_true n⟩
theorem flat_strs (ns : List Str) : (ns.map V.str).all flatV = true := by
  rw [List.all_eq_true]
  intro v hv
  obtain ⟨n, _, rfl⟩ := List.mem_map.mp hv
  rfl
section
variable {K : PySem.W.Frag} {W : Wd} {r : Addr} {ta tb : TE} {fa fb : FE}
theorem rs_inS {neg : Bool} {n : Str} {ns : List Str} {y : PyData} (h : y = .list (ns.map .str) ∨ y = .tuple (ns.map .str)) : Rs K (rIn K neg) (.dat (.str n)) (.dat y) (.dat (.bool (ng neg (decide (n ∈ ns))))) := fun ms H v w _ hx hy Q q => by
  cases hx
  have fin : Q (.bl (if neg then !inV (V.str n) (ns.map V.str) else inV (V.str n) (ns.map V.str))) H := by
    rw [inV_strs]
    cases neg
    · exact q _ H (Same.refl H) (.bl _)
    · exact q _ H (Same.refl H) (.bl _)
  rcases h with rfl | rfl
  · cases hy with
    | lst hs ha =>
      rw [dpa_strs ha] at hs
      exact ⟨_, _, rfl, .inl (sql_mono cut_le hs), rfl, flat_strs ns, fin⟩
  · cases hy with
    | tup hs ha =>
      rw [dpa_strs ha] at hs
      exact ⟨_, _, rfl, .inr (sqt_mono cut_le hs), rfl, flat_strs ns, fin⟩
theorem je_inS (ha : JE K W r ta fa) (hb : JE K W r tb fb) : JE K W r (tOp (rIn K false) ta tb) (fun env Φ => fa env fun x => fb env fun y => inSK false x y Φ) := je_op ha hb fun x y Φ h => by
  obtain ⟨n, rfl, ns, e, h⟩ := strK_of h
  exact ⟨_, h, rs_inS e⟩
theorem je_notInS (ha : JE K W r ta fa) (hb : JE K W r tb fb) : JE K W r (tOp (rIn K true) ta tb) (fun env Φ => fa env fun x => fb env fun y => inSK true x y Φ) := je_op ha hb fun x y Φ h => by
  obtain ⟨n, rfl, ns, e, h⟩ := strK_of h
  exact ⟨_, h, rs_inS e⟩
end
end Wp

/-! xs += ys, lists. -/
namespace Fw
open PySem PySem.Spec L2 PyProof.Rows
/-- xs += ys in place -/
def ipL : TIp := fun x y H Q => ∃ (l b : Addr) (xs zs : List V), x = .ref l ∧ y = .ref b ∧ H l = some (.lst xs) ∧ H b = some (.lst zs) ∧ xs.length + zs.length ≤ sizeLine ∧ Q (.ref l) (upd H l (.lst (xs ++ zs)))
section
variable {M : Model} {A : Around} {E : Value → Shared → Prop} {s : Shared}
theorem ins_none : fillsInplaceSlot (.type "list") "add" (Operator.Add == .Add) = pure false := by
  unfold fillsInplaceSlot
  show (typeLookup (.type "list") (dunderI "add") >>= fun fi => pure (fi.isSome && !isSeqSlot fi)) = pure false
  rw [PySem.F.slot_list_iadd.lookup, pure_bind]
  congr 1
theorem ins_seq : seqSlot? (.type "list") (dunderI "add") = pure (some (.builtin "list.__iadd__"))   := PySem.seqSlot_of PySem.F.slot_list_iadd.lookup (by decide +kernel)
theorem iadd_lists {a b : Value} {Q : Value → Shared → Prop} (ha : s.TypeIs a "list") (hb : s.TypeIs b "list") (hc : wpAny M A (call (.builtin "list.__iadd__") [a, b]) Q E s) : wpAny M A (inplaceOp .Add a b) Q E s := by
  unfold inplaceOp
  refine wpAny_holding ?_
  refine wpAny_bind (wpAny_typeOf ha (wpAny_bind (wpAny_of_eq ins_none ?_)))
  show wpAny M A (if false = true then _ else _) Q E s
  rw [if_neg Bool.false_ne_true]
  refine wpAny_bind (wpAny_binaryOp1_none (nm := "add") ha hb noFill_list_add ?_)
  refine wpAny_bind (wpAny_of_eq ins_seq ?_)
  exact wpAny_bind (wpAny_rule hc)
end
theorem ip_lst {X : Cx} : PIp X .Add ipL := by
  intro pins s σ H x y v u Q I r1 r2 ⟨l, b, xs, zs, ex, ey, hH, hB, hz, q⟩
  subst ex ey
  cases r1
  cases r2
  obtain ⟨z, its, n, r, hl, e⟩ := I.lstM hH
  obtain ⟨z2, its2, n2, r', hl2, e2⟩ := I.lstM hB
  have hsz : its.toArray.size + its2.toArray.size ≤ sizeLine := by
    rw [List.size_toArray, List.size_toArray]
    omega
  have far : ¬ (!its.toArray.isEmpty && Builtin.List.listTooLong (its.toArray.size + its2.toArray.size)) = true := by
    rw [notLongL hsz, Bool.and_false]
    exact Bool.false_ne_true
  refine iadd_lists ⟨_, e, rfl⟩ ⟨_, e2, rfl⟩ (call_meets PySem.F.slot_list_iadd ⟨_, e, rfl⟩ PySem.F.entry_list_iadd (PySem.F.args_list_iadd_2 _ _) (AutoSeq1.list___iadd___list_list_0 l its.toArray n b its2.toArray n2 far (by rw [List.size_toArray]; omega) (by omega)) ⟨e, e2, ?_⟩)
  exact ⟨.ref l, _, I.lset (its' := its ++ its2) hH e (by simp) (r.append r') (by rw [List.length_append]; omega), rfl, q⟩
end Fw
namespace Wp
open PySem L2 Fw
section
variable {K : PySem.W.Frag} {W : Wd} {r : Addr} {X : WX} {te : TE} {fs : FA}
theorem jc_augLL (i : Nat) (h : JF K W r te fs) : JS K W r X (tAug i te ipL) (fun env P => ownK env i fun ds => fs env fun es => (noLists es = true ∧ ds.length + es.length ≤ 100000) ∧ P.nx (env.set i (.own (ds ++ es)))) := fun env P φ h0 hc ms0 σ H D ⟨ms, ρ, os, a⟩ k => by
  obtain ⟨ds, e, φ⟩ := ownK_of φ
  obtain ⟨l, vs, es, lw, el, _, _⟩ := a.write (us := []) e
  refine ⟨.ref l, es, h _ _ φ _ _ σ H a.lent _ fun fs2 p zs H1 ψ g x hp ep o => ?_⟩
  obtain ⟨⟨nl, lz⟩, ψ⟩ := ψ
  have a1 := a.backL g x
  obtain ⟨l2, vs2, es2, _, el2, dv2, put⟩ := a1.write (us := []) e
  rw [es] at es2
  obtain rfl : l = l2 := by cases es2; rfl
  have hL : ∀ z ∈ os.map (·.1), ∃ xs, H1 z = some (.lst xs) := a1.lists
  have o2 : DpAll K (cut (os.map (·.1) ++ (p :: les os ms)) H1) zs fs2 := apart_nolists hL nl o
  have o3 : DpAll K (cut ms H1) zs fs2 := dpa_mono (cut_sub fun z hz => by
    rw [List.mem_append, List.mem_cons]
    rcases List.mem_append.mp (les_cover (os := os) z hz) with w | w
    · exact .inl w
    · exact .inr (.inr w)) _ _ o2
  obtain ⟨os', a2⟩ := put (vs2 ++ zs) (ds ++ fs2) (dpa_app dv2 o3)
  refine ⟨l, p, vs2, zs, rfl, rfl, el2, ep, by rw [dpa_len dv2, dpa_len o3]; exact le_line lz, ?_⟩
  have es3 : σ.set i (some (.ref l)) = σ := by
    apply List.ext_getElem?
    intro j
    by_cases q : i = j
    · subst q
      have li : i < σ.length := by
        rcases Nat.lt_or_ge i σ.length with w | w
        · exact w
        · rw [List.getElem?_eq_none w] at es; cases es
      rw [List.getElem?_set_self li, es]
    · rw [List.getElem?_set_ne q]
  show D.nx (σ.set i (some (.ref l))) _
  rw [es3]
  exact k.nx _ _ _ ψ ⟨_, _, _, a2⟩
end
end Wp

/-! A lambda made in a def that has one table of code objects, handed to a def that keeps what it raises. -/
namespace Fw
open PySem PySem.Spec PyProof.Rows L2 LamX
/-- all stays but one address -/
def ExtP (P : Addr) (H H' : Hp) : Prop := ∀ a o, a ≠ P → H a = some o → H' a = some o
section
variable {X : Cx} {pins : List (Addr × Obj)} {σ : L2.St} {H : Hp} {s : Shared}
theorem lam_makeP {P m : Addr} {ar : Arguments} {el : Expr} {sc : Scope} {at_ : Pos} {E Q : Value → Shared → Prop} (I : Inv X pins σ H s) (B : TabB X.base X.mg m P) (em : X.env.code = .ref m) (tab : TabS H P (X.env.qual ++ "<lambda>")) (ed : defaultsOf ar X.env = ([], [])) (fr : ∀ y ∈ sc.names, y.2 = .free → ∃ c, X.env.cells.lookup y.1 = some c)
    (go : ∀ (g d : Addr) (u v : Value) (H1 : Hp) (s1 : Shared), Inv X pins σ H1 s1 → ExtP P H H1 → TabS H1 P (X.env.qual ++ "<lambda>") → s1.heap.get? g = some (PySem.W.kla_obj "<lambda>" (X.env.qual ++ "<lambda>") ar el sc (cloFrom X.env.cells sc.names []) u d v) → H1 g = none → g ∉ frs X.stack → H1 d = some (CodeO d (X.env.qual ++ "<lambda>")) → Q (.ref g) s1) :
    wpAny (model X.prog X.w) X.A (eval (.Lambda ar el sc at_) X.env) Q E s := by
  obtain ⟨tb, e0, ok3, kn⟩ := tab
  have eP : s.heap.get? P = some { cls := .none, data := .fields tb } := I.hok P _ e0
  have far : ∀ g, s.heap.objs.size ≤ g → g ∉ frs X.stack := fun g l z => by
    cases List.mem_cons.mp (I.stkSub _ z) with
    | inl e => exact absurd l (by rw [e]; exact Nat.not_le_of_lt I.lt)
    | inr e => exact I.nofs l e
  have code := B.code.keeps I.bk
  have bm := B.bm.keeps I.bk
  have glob := I.mod.glob.keeps I.bk
  refine PySem.W.kla_eval ed ?_
  cases hit : codeAmong at_ tb.toList with
  | some v =>
    obtain ⟨d, rfl, kd⟩ := kn at_ v hit
    exact PySem.W.kla_makeFunctionHit (mg := X.mg) (c := m) (P := P) (ps := tb) (closure_ok fr) I.ok.glob glob em code eP ok3 hit bm fun ct h1 tk keep le =>
      go h1.objs.size d ((X.mg "__name__").getD .none) ct H _ (I.kept fun b o e => Heap.get?_push_of_some _ (keep b o e)) (fun _ _ _ e => e) ⟨tb, e0, ok3, kn⟩ (Heap.get?_push_size _ rfl) (I.hok.fresh le) (far _ le) kd
  | none =>
    refine PySem.W.kla_makeFunction (mg := X.mg) (c := m) (P := P) (ps := tb) (closure_ok fr) I.ok.glob glob em code eP ok3 hit B.gP bm fun d ct h1 tk ext le lt rec tb2 => ?_
    obtain ⟨d', oc, vs, t, ed', ho, hd, hv⟩ := rec
    cases ed'
    have nd : H d = none := I.hok.fresh le
    have Pd : P ≠ d := ne_of_none e0 nd
    have big : s.heap.objs.size ≤ h1.objs.size := Nat.le_trans le (Nat.le_of_lt lt)
    have J := inv_table (q := X.env.qual ++ "<lambda>") (t' := tk) (h' := h1.push (PySem.W.kla_obj "<lambda>" (X.env.qual ++ "<lambda>") ar el sc (cloFrom X.env.cells sc.names []) ((X.mg "__name__").getD .none) d ct)) I e0 (fun b o n e => Heap.get?_push_of_some _ (ext b o n e)) (Heap.get?_push_of_some _ tb2) le ⟨oc, vs, t, Heap.get?_push_of_some _ ho, hd, hv⟩
    have X1 : ExtP P H (upd (upd H P (.tbl (tb ++ #[rawInt at_.line, rawInt at_.col, .ref d]))) d (CodeO d (X.env.qual ++ "<lambda>"))) := fun b o n e => by rw [upd_ne (ne_of_none e nd), upd_ne n]; exact e
    have tl : (tb ++ #[rawInt at_.line, rawInt at_.col, .ref d]).toList = tb.toList ++ [rawInt at_.line, rawInt at_.col, .ref d] := by simp
    have gd : h1.objs.size ≠ d := Nat.ne_of_gt lt
    have gP : h1.objs.size ≠ P := Nat.ne_of_gt (Nat.lt_of_lt_of_le (Heap.lt_size eP) big)
    refine go h1.objs.size d _ ct _ _ J X1 ⟨_, (upd_ne Pd).trans upd_same, by rw [tl]; exact PySem.TriplesOk_snoc _ _ _ _ ok3, fun p v e => ?_⟩ (Heap.get?_push_size _ rfl) (by rw [upd_ne gd, upd_ne gP]; exact I.hok.fresh big) (far _ big) upd_same
    rw [tl] at e
    rcases among_app _ ok3 e with z | z
    · obtain ⟨c0, ec, hc0⟩ := kn p v z
      exact ⟨c0, ec, X1 _ _ (fun w => by rw [w, e0] at hc0; cases hc0) hc0⟩
    · exact ⟨d, z, upd_same⟩
/-- a def given a lambda: what it makes of the lambda's reading -/
def tLamP (P : Addr) (q : Str) (TT : (XK → Hp → VK → Prop) → Hp → VK → Prop) (t : XK → TE) : TE := fun σ H Q => TabS H P q ∧ ∀ H1, ExtP P H H1 → TabS H1 P q → TT (fun E H' Q' => t E σ H' Q') H1 Q
theorem pe_lamP {TT : (XK → Hp → VK → Prop) → Hp → VK → Prop} {x a : Str} {g m P : Addr} {k : Nat} {fd : FuncData} {st : Stmt} {Ng : List Str} {ar : Arguments} {el : Expr} {sc : Scope} {t : XK → TE} {p lp pos : Pos} (F : Fun X.K x x st g fd) (hg : Gl X x) (hm : X.mg x = some (.ref g)) (hk : PySem.W.keepIn X.K (.ref g) = true)
    (hb : L2.Binds X.K fd [a] []) (S : FnScope Ng [a] (defScope st)) (hN : Ng[0]? = some a) (hv : Vis (defScope st) a) (hG : ∀ cdv, GivesTo X Ng x (defScope st) g cdv (defBody st) a (X.env.qual ++ "<lambda>") TT)
    (B : TabB X.base X.mg m P) (em : X.env.code = .ref m) (hr : Room (k + 2) X.A) (L : LamS X.env.scope sc) (ed : defaultsOf ar X.env = ([], [])) (hbd : ∀ (q : Str) (cl : List (Str × Addr)) (u v w : Value), bindArgs (PySem.W.kla_fn "<lambda>" q ar el sc cl u v w) ⟨[], []⟩ = pure [])
    (body : ∀ (A : Around) (outer : List Env) (s : Shared) (H : Hp) (E : XK) (f d : Addr), Room k (A.deeper (lamEnv X sc s.heap.objs.size f d)) → PE (lamCx X A outer s H E sc f d) el (t E))
    (d1 : (x == ("__debug__" : Str)) = false := by decide) (d2 : (a == ("__debug__" : Str)) = false := by decide) (d3 : (a == ("__classdict__" : Str)) = false := by decide) :
    PE X (.Call (.Name x p) [.Lambda ar el sc lp] [] pos) (tLamP P (X.env.qual ++ "<lambda>") TT t) := ⟨fun pins s σ H Q I ⟨tab, h⟩ => by
  obtain ⟨oc, od, kV, dc, pm, an, cdv, ct, osl, rfl, lk, hcd⟩ := F.ex
  refine wpAny_Call_Name_kw (ld_glob I hg hm (PySem.W.callWith_K (h₀ := X.base) I.ok.mod.kin hk ?_ (by rfl) (by rfl)) d1)
  show wpAny _ _ (spliced ((false, eval (.Lambda ar el sc lp) X.env) :: backTo pos (starEach [] X.env))) _ _ s
  refine Calls.spliced_cons (lam_makeP I B em tab ed (L.has I.ok) fun f d u v H1 s1 I1 eN tab1 ef fn ffr ed' => Calls.spliced_nil ⟨I1.kIn, ?_⟩)
  refine wpAny_call (codeAny_mono (run_ofS (CX := C8.CX0) (N := Ng) (ps := [a]) (us := [.ref f]) (vs := [.ref f]) (Q := Q) (E := C8.E0) lk hcd S hr I1.env0 (hb s1 [.ref f] I1.kIn rfl) (.cons rfl .nil) rfl fun hr2 => ?_) fun r s2 z => ?_)
  · obtain ⟨w, pw, zw⟩ := hG cdv f d s1 H1 Q (fun E H' Q' => t E σ H' Q') (fun W pn xe E p1 p2 tk hW => pe_act (i := 0) I1 L ef fn ffr (hbd _ _ _ _ _) tk hW hr2 (fun A outer s H hr3 => body A outer s H E f d hr3) hN hv d2 d3) ed' (h H1 eN tab1)
    exact ⟨w, pw.nox, zw⟩
  · match r, z with
    | .error e, z => exact (show False from z).elim
    | .ok (.ret u), z => exact I1.after z
    | .ok .next, z => exact z.elim
    | .ok .brk, z => exact z.elim
    | .ok .cont, z => exact z.elim⟩
/-- caught = None; try: a(); except x as e: caught = e; return caught -/
def TTk (K : PySem.W.Frag) (CS : Addr) : (XK → Hp → VK → Prop) → Hp → VK → Prop := fun tl H Q =>
  tl (fun cls d H' => PySem.W.exmOne K cls (.ref CS) = some true ∧ d = none ∧ ∀ a, H' a = none → Q (.ref a) (upd H' a (ExK cls a))) H fun _ H' => Q .non H'
theorem takes_len {W : WX} {n : Nat} (hn : X.N.length = n) (tk : Takes X W) : Takes X (fun cls d σ H => σ.length = n → W cls d σ H) := fun u s' ⟨a, B, sI, pins, σ, H, cls, d, e, I, nb, up, sky, na, os, ag, w⟩ => tk u s' ⟨a, B, sI, pins, σ, H, cls, d, e, I, nb, up, sky, na, os, ag, w (I.len.trans hn)⟩
end
/-! ### a world with draws and a table -/
structure DrawT where
  dr : DrawA
  P : Addr
  q : Str
  nd : P ≠ dr.d
  nl : P ≠ dr.l
def TW (K : PySem.W.Frag) (A : DrawT) : Wd where
  ws := [A.dr.d, A.dr.l, A.P]
  P := fun H => (∃ S, drawAt A.dr S H) ∧ TabS H A.P A.q
  sup := fun H H' k e ⟨⟨S, h1, h2⟩, ps, t1, t2, t3⟩ => ⟨⟨S, k _ (by simp) _ h1, k _ (by simp) _ h2⟩, ps, k _ (by simp) _ t1, t2, fun p v hc => let ⟨c, c1, c2⟩ := t3 p v hc; ⟨c, c1, e _ _ c2⟩⟩
  C := (DW K A.dr).C
  mono := (DW K A.dr).mono
section
variable {P : Program} {w : World} {K : PySem.W.Frag} {mg : Str → Option Value} {base : Heap}
/-- a def that draws, in the world with the table -/
theorem lift_T {k : Nat} {f : Addr} {fd : FuncData} {ps : List Str} {Pre : List PyData → Prop} {Φ : List PyData → PyData → Prop} (F : FnOk P w K mg base CX0 k f fd ps (spU K (DW K) DrawA.d Pre Φ)) : FnOk P w K mg base CX0 k f fd ps (spU K (TW K) (fun A => A.dr.d) Pre Φ) :=
  F.imp fun vs H Q E ⟨A, ms, ds, ws, ev, sub, l, p, c, o, pre, q⟩ => ⟨A.dr, ms, ds, ws, ev, fun a ha => sub a (by
    rcases List.mem_cons.mp ha with e | e
    · rw [e]; exact List.mem_cons_self
    · rw [List.mem_singleton.mp e]; exact List.mem_cons_of_mem _ List.mem_cons_self), l, p.1, c, o, pre, fun d v H' φ x l' p' o' => q d v H' φ (fun a u n e => x a u (fun z => n (by
    rcases List.mem_cons.mp z with e | e
    · rw [e]; exact List.mem_cons_self
    · rw [List.mem_singleton.mp e]; exact List.mem_cons_of_mem _ List.mem_cons_self)) e) l' ⟨p', by
      obtain ⟨⟨S, h1, h2⟩, tb, t1, t2, t3⟩ := p
      have out : ∀ a u, a ≠ A.dr.d → a ≠ A.dr.l → H a = some u → H' a = some u := fun a u n1 n2 e => x a u (fun z => by
        rcases List.mem_cons.mp z with z | z
        · exact n1 z
        · exact n2 (List.mem_singleton.mp z)) e
      refine ⟨tb, out _ _ A.nd A.nl t1, t2, fun p v hc => ?_⟩
      obtain ⟨c, c1, c2⟩ := t3 p v hc
      exact ⟨c, c1, out _ _ (fun z => by rw [z, h1] at c2; cases c2) (fun z => by rw [z, h2] at c2; cases c2) c2⟩⟩ o'⟩
end
end Fw
namespace Wp
open PySem L2 Fw LamX
section
variable {K : PySem.W.Frag} {A : DrawT} {ms : List Addr} {B : Bs} {H H1 : Hp} {ρ : List Sl} {σ : St} {n : Nat} {tA : TA} {fA : FA} {O : List PyData → Sc.Out → Prop}
theorem at_extP (h : At K (TW K A) ms B ρ σ H) (e : ExtP A.P H H1) (t : TabS H1 A.P A.q) : At K (TW K A) ms B ρ σ H1 ∧ XW (TW K A).ws H H1 := by
  have x : XW (TW K A).ws H H1 := fun a o n q => e a o (fun z => n (by rw [z]; simp [TW])) q
  refine ⟨h.go x (fun a ha => ?_) ⟨?_, t⟩, x⟩
  · by_cases z : a = A.P
    · obtain ⟨tb, t1, _⟩ := t
      exact ⟨_, by rw [z]; exact t1⟩
    · obtain ⟨o, q⟩ := h.live a ha
      exact ⟨o, e a o z q⟩
  · obtain ⟨S, h1, h2⟩ := h.p.1
    exact ⟨S, e _ _ (Ne.symm A.nd) h1, e _ _ (Ne.symm A.nl) h2⟩
/-- isinstance(caught(lambda: f(..)), c), where f raises -/
theorem je_caught {r CS CN : Addr} (ha : JA K (TW K A) r n tA fA) : JE K (TW K A) r (tCB (rIsX K) (tCons (tLamP A.P A.q (TTk K CS) (fun E => tCallS (Sc.spX K O) (WE fun cls d _ H => E cls d H) tA)) (tCons (tC (.ref CN)) tNil)))
    (fun env Φ => fA env fun ds => ∃ c b, O ds (.no c) ∧ (PySem.W.exmOne K (.ref c) (.ref CS) = some true ∧ ExcC K c ∧ PySem.W.kitOne K (.ref c) (.ref CN) = some b) ∧ Φ (.bool b)) := fun env Φ φ ms B σ H g Q q => by
  refine ⟨g.p.2, fun H1 eN t1 => ?_⟩
  obtain ⟨g1, x1⟩ := at_extP g eN t1
  refine ha env _ φ ms B σ H1 g1 _ fun ds vs H2 ψ g2 x2 o2 => ?_
  obtain ⟨_, c, b, ho, ⟨k1, k2, k3⟩, ψ⟩ := ψ
  refine ⟨ms, ds, .no c, g2.live, o2, ho, fun d e => (nomatch e), fun c' e H3 s3 => ?_, fun c f d e => (nomatch e)⟩
  cases e
  refine ⟨k1, rfl, fun a hA => ?_⟩
  have s4 := same_put (o := ExK (.ref c) a) hA
  exact .inr ⟨a, c, .ref CN, .ref CN, b, rfl, upd_same, k2, .own CN, k3, q (.dat (.bool b)) _ _ ⟨_, rfl, ψ⟩ ((g2.same s3).same s4) ((x1.trans x2).trans ((XW.of_same s3).trans (.of_same s4))) (.bl b)⟩
end
end Wp

/-! sorted(xs, key=lambda x: (len(x), x)), xs tuples of ints. -/
namespace Fw
open PySem PySem.Spec PyProof.Rows L2 LamX
/-- (len(x), x) -/
abbrev keyE (x : Str) (p1 p2 p3 p4 p5 : Pos) (j : Nat) : Expr := .Tuple [.Call (.Name "len" p1) [.Name x p2] [] p3, .Name x p4] j p5
section
variable {prog : Program} {w : World} {A : Around} {s : Shared}
theorem key_turn {mg mb : Str → Option Value} {qual x : Str} {ar : Arguments} {sc : Scope} {u v : Value} {f c t : Addr} {p1 p2 p3 p4 p5 : Pos} {j : Nat} {its : List Value} {xs : List PyData} (dp : A.depth < recursionLimit)
    (hf : s.heap.get? f = some (PySem.W.kla_obj "<lambda>" qual ar (keyE x p1 p2 p3 p4 p5 j) sc [] u c v)) (hc : s.heap.CodeRec (.ref c) qual) (g1 : s.heap.Ns mainGlobals mg) (n1 : mg "len" = none) (g2 : s.heap.Ns builtinsNs mb) (n2 : mb "len" = some (.builtin "len")) (nl : s.heap.NoLimit)
    (k1 : sc.kind = .function) (k2 : sc.isCoroutine = false) (k3 : sc.isGenerator = false) (kc : ∀ y ∈ sc.names, y.2 ≠ .cell) (kx : sc.names.lookup x = some .local) (kl : sc.names.lookup ("len" : Str) = some .globalImplicit)
    (bd : bindArgs (PySem.W.kla_fn "<lambda>" qual ar (keyE x p1 p2 p3 p4 p5 j) sc [] u (.ref c) v) ⟨[.ref t], []⟩ = pure [(x, .ref t)]) (xd : (x == ("__debug__" : Str)) = false)
    (ht : IsTup s.heap t its.toArray) (hz : its.length ≤ sizeLine) (hr : ReadsAll s.heap its xs []) :
    wpAny (model prog w) A (call (.ref f) [.ref t]) (PySem.W.KeyPure (.tuple [.int its.length, .tuple xs]) s) (fun _ _ => False) s := by
  refine wpAny_call (PySem.W.kla_callFunE dp hf rfl k2 k3 rfl hc ?_)
  rw [bd]
  refine wpAny_pure (wpAny_newFunctionEnv kc (fun y hy => by rw [List.mem_singleton.mp hy]; exact kx) (fun h1 hns hsb => ⟨nl.fresh _ hsb, PySem.W.kla_codeExpr ?_⟩) k1)
  have kp : ∀ b o, s.heap.get? b = some o → h1.get? b = some o := fun b o e => hsb.extBut b o (Nat.ne_of_lt (Heap.lt_size e)) (Heap.get?_push_of_some _ e)
  have lz := line63
  refine wpAny_Tuple_spliced ?_
  show wpAny _ _ (spliced ((false, eval (.Call (.Name "len" p1) [.Name x p2] [] p3) _) :: backTo p5 (starEach [.Name x p4] _))) _ _ _
  refine Calls.spliced_cons ?_
  refine wpAny_Call_Name_kw (Calls.Name_function_global k1 kl (Calls.loadGlobal_builtin (g1.keeps kp) n1 (g2.keeps kp) n2 ?_))
  refine PyProof.Rows.callWith_builtin1 ?_
  show wpAny _ _ (spliced ((false, eval (.Name x p2) _) :: backTo p3 (starEach [] _))) _ _ _
  refine Calls.spliced_cons (wpAny_Name (wpAny_loadName_local k1 kx hns (show [(x, Value.ref t)].reverse.lookup x = some (.ref t) by simp) ?_) xd)
  refine Calls.spliced_nil ?_
  have ht1 : IsTup h1 t its.toArray := by
    obtain ⟨o, ho, r⟩ := ht
    exact ⟨o, kp _ _ ho, r⟩
  refine len_tuple (s := { s with heap := h1, toks := s.toks + 1 }) ht1 (by simp only [List.size_toArray]; omega) ?_
  show wpAny _ _ (spliced ((false, eval (.Name x p4) _) :: backTo p5 (starEach [] _))) _ _ _
  refine Calls.spliced_cons (wpAny_Name (wpAny_loadName_local k1 kx hns (show [(x, Value.ref t)].reverse.lookup x = some (.ref t) by simp) ?_) xd)
  refine Calls.spliced_nil ⟨by show 2 ≤ sizeLine; rw [sizeLine_eq]; decide, ?_⟩
  have kp2 : ∀ b o, s.heap.get? b = some o → (h1.push { cls := .type "tuple", data := .seq [Value.int (its.toArray.size : Int) (s.toks + 1 + 1), .ref t].toArray }).get? b = some o := fun b o e => Heap.get?_push_of_some _ (kp b o e)
  refine ⟨_, _, rfl, kp2, ?_⟩
  obtain ⟨o, ho, hcl, n, hd⟩ := ht
  refine .tuple (as := []) (Heap.get?_push_size _ rfl) rfl rfl (.cons (as := []) (bs := []) ?_ (.cons (as := []) (bs := []) (.tuple (as := []) (kp2 _ _ ho) hcl hd (PyProof.Rows.ReadsAll.keeps kp2 (by simpa using hr))) .nil))
  rw [List.size_toArray]
  exact .int _ _
end
end Fw

/-! sorted of a tuple of ints. -/
namespace Fw
open PySem PySem.Spec PyProof.Rows L2
def rSortedT (K : PySem.W.Frag) : List V → Hp → VK → Prop := fun vs H Q => ∃ (t : Addr) (ns : List Int), vs = [V.ref t] ∧ SqT K H t (ns.map V.int) ∧
  ∀ (ms : List Int) (l : Addr), ms.Perm ns → ms.Pairwise (· ≤ ·) → H l = none → Q (.ref l) (upd H l (.lst (ms.map V.int)))
section
variable {X : Cx}
theorem cr_sortedT : CallR X (.builtin "sorted") (rSortedT X.K) := by
  intro pins s σ H vs us Q I r ⟨t, ns, ev, hs, q⟩
  subst ev
  obtain ⟨its, rv, ⟨o, ho, hc, en, hd⟩, hz⟩ := I.tuple hs
  rw [Vals.ref1 r]
  have hi := rv.ints
  have lz : its.length ≤ sizeLine := by rw [← rv.length]; exact hz
  refine Calls.call_function_entry (PyProof.Rows.kind_sorted) PyProof.Rows.plain_sorted PyProof.Rows.entry_sorted (PyProof.Rows.args_sorted1 _) ?_
  unfold Builtin.«sorted»
  refine wpAny_bind (m := checkCount "sorted" 1 1 _) (wpAny_pure ?_)
  refine wpAny_bind (wpAny_collect_seq t (.inr rfl) ho hc hd (fun h1 keep => ?_) (by rw [List.size_toArray]; exact lz))
  rw [show its.toArray.toList = its from by simp]
  have I1 : Inv X pins σ H { s with heap := h1 } := I.kept keep
  refine wpAny_bind (wpAny_newList ?_ lz)
  have hl : (h1.push (seqObj "list" its.toArray 0)).get? h1.objs.size = some (seqObj "list" its.toArray 0) := Heap.get?_push_size _ rfl
  show wpAny _ _ _ _ _ { s with heap := h1.push (seqObj "list" its.toArray 0) }
  refine wpAny_bind (wpAny_holding (wpAny_call_entry PyProof.Rows.slot_list_sort ⟨_, hl, rfl⟩ PyProof.Rows.entry_list_sort
    (SrtO.list_sort_ord (s := { s with heap := h1.push (seqObj "list" its.toArray 0) }) SrtO.swo_int hl lz (fun two => SrtO.ints_sortable hi two) fun out p1 p2 => ⟨_, rfl, ?_⟩) (PyProof.Rows.args_list_sort _)))
  obtain ⟨z1, z2, z3⟩ := SrtO.ints_out hi p1 p2
  obtain ⟨e', he'⟩ := PyProof.Rows.sortedHeap_at (vs := its) (out := out.toArray) hl
  have lo : ((out.map SrtO.iv).map V.int).length ≤ sizeLine := by
    rw [List.length_map, z2.length_eq]
    rw [List.length_map] at hz
    exact hz
  refine wpAny_pure ⟨_, rfl, .ref h1.objs.size, upd H h1.objs.size (.lst ((out.map SrtO.iv).map V.int)), I1.laid (t' := s.toks) (fun b u e => ?_) (Nat.le_refl _) (show ObjOk X.prog X.w _ _ _ (.lst ((out.map SrtO.iv).map V.int)) from ⟨lo, out, e', vals_of_ints z1, he'⟩), rfl, q _ _ z2 z3 (I1.hok.fresh (Nat.le_refl _))⟩
  have lb : b < h1.objs.size := Heap.lt_size e
  rw [PyProof.Rows.sortedHeap_old (Nat.ne_of_lt lb) (by rw [size_push']; exact Nat.lt_succ_of_lt lb)]
  exact Heap.get?_push_of_some _ e
end
end Fw
namespace Wp
open PySem L2 Fw
def sortTK (ds : List PyData) (Φ : List PyData → Prop) : Prop := ∃ ns : List Int, ds = [.tuple (ns.map .int)] ∧ ∀ ms : List Int, ms.Perm ns → ms.Pairwise (· ≤ ·) → Φ (ms.map .int)
section
variable {K : PySem.W.Frag} {W : Wd} {r : Addr} {tA : TA} {fA : FA}
theorem jf_sortedT (h : JA K W r 1 tA fA) : JF K W r (tCB (rSortedT K) tA) (fun env Φ => fA env fun ds => sortTK ds Φ) := fun env Φ φ ms B σ H a Q q => h env _ φ ms B σ H a _ fun ds vs H1 ψ h1 x1 o1 => by
  obtain ⟨_, ns, rfl, k⟩ := ψ
  cases o1 with
  | cons o1 o2 =>
    cases o2
    cases o1 with
    | @tup p xs _ hs hx =>
      obtain rfl := dpa_ints hx
      refine ⟨p, ns, rfl, sqt_mono cut_le hs, fun es l pe pw hl => ?_⟩
      have hw := (h1.fresh hl).2.2
      refine q _ l (es.map .int) _ (k es pe pw) (h1.same (same_put hl)) (x1.trans (.of_same (same_put hl))) ?_ upd_same (dpa_of_ints _ _ _)
      cases z : H l with
      | none => rfl
      | some o => rw [x1 l o hw z] at hl; cases hl
end
end Wp

/-! sorted of a list of tuples of ints, in order; sorted of such by key=lambda x: (len(x), x). -/
namespace Fw
open PySem PySem.Spec PyProof.Rows L2 LamX
/-- the order of tuples of ints -/
def encT (ns : List Int) : PyData := .tuple (ns.map .int)
def leT (a b : List Int) : Bool := PySem.W.dataLe false encT a b
/-- by the length first -/
def encK (ns : List Int) : PyData := .tuple [.int ns.length, encT ns]
def leK (a b : List Int) : Bool := PySem.W.dataLe false encK a b
abbrev TupB := V × List Int
theorem each_vals : ∀ {bs : List TupB} {its : List Value}, Vals (bs.map (·.1)) its → PySem.W.EachIs (fun v (b : TupB) => RelV b.1 v) its bs
  | [], _, r => by cases r; exact .nil
  | b :: bs, _, r => by
    cases r with
    | cons h t => exact .cons h (each_vals t)
theorem vals_each : ∀ {bs : List TupB} {its : List Value}, PySem.W.EachIs (fun v (b : TupB) => RelV b.1 v) its bs → Vals (bs.map (·.1)) its
  | _, _, .nil => .nil
  | _, _, .cons h t => .cons h (vals_each t)
theorem each_and {α β : Type} {R S : α → β → Prop} : ∀ {as : List α} {bs : List β}, PySem.W.EachIs R as bs → (∀ a b, b ∈ bs → R a b → S a b) → PySem.W.EachIs S as bs
  | _, _, .nil, _ => .nil
  | _, _, .cons h t, f => .cons (f _ _ List.mem_cons_self h) (each_and t fun a b m => f a b (List.mem_cons_of_mem _ m))
theorem alike_encT (a b : List Int) : PySem.W.alike (encT a) (encT b) = true := by
  unfold encT
  rw [PySem.W.alike]
  exact PySem.W.alike_ints a b
theorem alike_encK (a b : List Int) : PySem.W.alike (encK a) (encK b) = true := by
  unfold encK
  simp [PySem.W.alike, PySem.W.alikeAll, alike_encT]
theorem ints_all0 : ∀ ns : List Int, PyData.depthAll (ns.map .int) = 0
  | [] => by simp [PyData.depthAll]
  | n :: ns => by simp [PyData.depthAll, PyData.depth, ints_all0 ns]
theorem depth_encT (a : List Int) : (encT a).depth ≤ 1 := by
  unfold encT
  simp [PyData.depth, ints_all0]
theorem depth_encK (a : List Int) : (encK a).depth ≤ 2 := by
  have := depth_encT a
  unfold encK
  simp [PyData.depth, PyData.depthAll]
  omega
theorem reads_ints {h : Heap} : ∀ {its : List Value} {ns : List Int}, IntsAre its ns → ReadsAll h its (ns.map .int) []
  | _, _, .nil => .nil
  | _, _, .cons n t hi => .cons (as := []) (bs := []) (.int n t) (reads_ints hi)
def rSortedTO (K : PySem.W.Frag) : List V → Hp → VK → Prop := fun vs H Q => ∃ (a : Addr) (bs : List TupB), vs = [V.ref a] ∧ SqL K H a (bs.map (·.1)) ∧ (∀ b ∈ bs, TupI K H b.1 b.2) ∧ ((∀ b ∈ bs, b.2 ≠ []) ∨ bs.length ≤ 1 ∧ ∀ b ∈ bs, b.2 = []) ∧
  ∀ p : Addr, H p = none → Q (.ref p) (upd H p (.lst ((bs.mergeSort fun a b => leT a.2 b.2).map (·.1))))
section
variable {X : Cx}
theorem tup_reads {pins : List (Addr × Obj)} {σ : L2.St} {H : Hp} {s : Shared} {bs : List TupB} {its : List Value} (I : Inv X pins σ H s) (hb : ∀ b ∈ bs, TupI X.K H b.1 b.2) (e : PySem.W.EachIs (fun v (b : TupB) => RelV b.1 v) its bs) : PySem.W.EachIs (fun v (b : TupB) => ∃ t us, v = .ref t ∧ RelV b.1 v ∧ IsTup s.heap t (List.toArray us) ∧ IntsAre us b.2 ∧ us.length ≤ sizeLine) its bs :=
  each_and e fun v b m r => by
    obtain ⟨t, e1, st⟩ := hb b m
    obtain ⟨us, rv, hT, hz⟩ := I.tuple st
    have r' := r
    rw [e1] at r'
    cases r'
    refine ⟨t, us, rfl, r, hT, by simpa using rv.ints, by rw [← rv.length]; exact hz⟩
theorem one_sorted : ∀ {bs : List TupB}, bs.length ≤ 1 → bs.mergeSort (fun a b => leT a.2 b.2) = bs
  | [], _ => List.mergeSort_nil
  | [b], _ => List.mergeSort_singleton b
theorem one_perm {α : Type} : ∀ {xs ys : List α}, xs.length ≤ 1 → ys.Perm xs → ys = xs
  | [], _, _, h => h.eq_nil
  | [b], _, _, h => List.perm_singleton.mp h
theorem cr_sortedTO (hu : X.A.units + 64 < cLine) : CallR X (.builtin "sorted") (rSortedTO X.K) := by
  intro pins s σ H vs us Q I r ⟨a, bs, ev, hs, hb, ne, q⟩
  rcases ne with ne | ⟨one, em⟩
  case inr =>
    refine cr_sortedTI pins s σ H vs us Q I r ⟨a, bs.map (·.1), 0, 1, ev, hs, fun h => ?_, fun x hx => ?_, fun ys p hy hp => ?_⟩
    · rw [List.length_map] at h
      omega
    · obtain ⟨b, hm, rfl⟩ := List.mem_map.mp hx
      have := hb b hm
      rw [em b hm] at this
      exact ⟨[], this, rfl, fun n hn => nomatch hn⟩
    · rw [one_perm (by rw [List.length_map]; exact one) hy]
      have h9 := q p hp
      rw [one_sorted one] at h9
      exact h9
  subst ev
  obtain ⟨its, rv, hl, hz⟩ := I.list hs
  rw [Vals.ref1 r]
  have e1 := each_vals rv
  have e2 := tup_reads I hb e1
  rw [List.length_map] at hz
  refine PySem.W.sorted_data (R := fun v (b : TupB) => RelV b.1 v) (enc := fun b : TupB => encT b.2) hl.isList e1 (each_and e2 fun v b m ⟨t, us, ev, _, ⟨o, ho, hc, n, hd⟩, hi, _⟩ => ⟨[], by rw [ev]; exact .tuple (as := []) ho hc hd (by simpa using reads_ints hi)⟩) (PySem.W.AllAlike.of fun b c => alike_encT b.2 c.2) (.inl fun d hd => ?_) hz (fun b m => ?_) fun out lo eo => ?_
  · obtain ⟨b, m, rfl⟩ := List.mem_map.mp hd
    have := ne b m
    cases h : b.2 with
    | nil => exact absurd h this
    | cons n ns => exact ⟨.int n, ns.map .int, rfl⟩
  · have := depth_encT b.2
    omega
  · obtain ⟨ep, he'⟩ := PyProof.Rows.sortedAll_at s.heap its out.toArray
    have ev := vals_each eo
    have hlen : ((bs.mergeSort fun a b : TupB => leT a.2 b.2).map (·.1)).length ≤ sizeLine := by
      rw [List.length_map, List.length_mergeSort]
      exact hz
    exact ⟨.ref _, upd H (s.heap.objs.size + 1) (.lst ((bs.mergeSort fun a b : TupB => leT a.2 b.2).map (·.1))), I.laid (t' := s.toks) (fun _ _ => PyProof.Rows.sortedAll_old) (Nat.le_succ _) ⟨hlen, out, ep, ev, he'⟩, rfl, q _ (I.hok.fresh (Nat.le_succ _))⟩
/-! ### by a lambda -/
def tSortK (K : PySem.W.Frag) (P : Addr) (q : Str) (te : TE) : TE := fun σ H Q => te σ H fun v H1 => ∃ (a : Addr) (bs : List TupB), v = .ref a ∧ TabS H1 P q ∧ ∀ H2, ExtP P H1 H2 → TabS H2 P q → SqL K H2 a (bs.map (·.1)) ∧ (∀ b ∈ bs, TupI K H2 b.1 b.2) ∧
  ∀ p : Addr, H2 p = none → Q (.ref p) (upd H2 p (.lst ((bs.mergeSort fun a b => leK a.2 b.2).map (·.1))))
theorem pe_sortK {x : Str} {P m : Addr} {e : Expr} {te : TE} {ar : Arguments} {sc : Scope} {p pos lp kp p1 p2 p3 p4 p5 : Pos} {j k : Nat} (B : TabB X.base X.mg m P) (em : X.env.code = .ref m) (hr : Room (k + 2) X.A) (hg : Gl X "sorted") (hm : X.mg "sorted" = none) (hln : X.mg "len" = none) (he : PE X e te)
    (ed : defaultsOf ar X.env = ([], [])) (k1 : sc.kind = .function) (k2 : sc.isCoroutine = false) (k3 : sc.isGenerator = false) (kc : ∀ y ∈ sc.names, y.2 ≠ .cell) (kf : ∀ y ∈ sc.names, y.2 ≠ .free) (kx : sc.names.lookup x = some .local) (kl : sc.names.lookup ("len" : Str) = some .globalImplicit)
    (bd : ∀ (q : Str) (u v w t : Value), bindArgs (PySem.W.kla_fn "<lambda>" q ar (keyE x p1 p2 p3 p4 p5 j) sc [] u v w) ⟨[t], []⟩ = pure [(x, t)]) (xd : (x == ("__debug__" : Str)) = false) (cl : cloFrom X.env.cells sc.names [] = [])
    (hpl : (backTo pos (starEach [e] X.env)).any (·.1) = false := by rfl) (na : backTo pos (starEach [e] X.env) = (false, eval e X.env) :: backTo pos (starEach [] X.env) := by rfl) :
    PE X (.Call (.Name "sorted" p) [e] [⟨some "key", .Lambda ar (keyE x p1 p2 p3 p4 p5 j) sc lp, kp⟩] pos) (tSortK X.K P (X.env.qual ++ "<lambda>") te) := ⟨fun pins s σ H Q I h => by
  refine wpAny_Call_Name_kw (ld_blt I hg hm (by first | rfl | kernel_rfl) ?_ (by decide) (by decide))
  refine PyProof.Rows.callWith_kw ?_ na hpl (by rfl) (by rfl)
  rw [na]
  refine Calls.spliced_cons (thn (he.run pins s σ H _ I h) fun u s1 ⟨v, H1, I1, r1, a, bs, ev, tab, hq⟩ => Calls.spliced_nil ?_)
  subst ev
  cases r1
  show wpAny _ _ (evalAll ((do let v ← eval (.Lambda ar (keyE x p1 p2 p3 p4 p5 j) sc lp) X.env; standAt pos; pure v) :: [])) _ _ s1
  refine wpAny_evalAll_cons (wpAny_bind (lam_makeP I1 B em tab ed (fun y hy e => absurd e (kf y hy)) fun f d u v H2 s2 I2 eN tab2 ef fn ffr ed' => wpAny_bind (wpAny_standAt (wpAny_pure (wpAny_evalAll_nil ?_)))))
  obtain ⟨hs, hb, q⟩ := hq H2 eN tab2
  obtain ⟨its, rv, hl, hz⟩ := I2.list hs
  have e1 := each_vals rv
  have e2 := tup_reads I2 hb e1
  rw [List.length_map] at hz
  rw [cl] at ef
  obtain ⟨mb, b1, b2⟩ := I2.mod.blt
  obtain ⟨⟨oc, cvs, ct, c1, c2, c3⟩, _, _⟩ := I2.hok d _ ed'
  show wpAny _ _ (call (.builtin "sorted") [.ref a] [(Str.ofString "key", .ref f)]) _ _ s2
  refine PySem.W.sorted_key_data (b := false) (R := fun v (b : TupB) => ∃ t us, v = .ref t ∧ RelV b.1 v ∧ IsTup s2.heap t (List.toArray us) ∧ IntsAre us b.2 ∧ us.length ≤ sizeLine) (fun b : TupB => encK b.2) hl.isList e2 (PySem.W.AllAlike.of fun b c => alike_encK b.2 c.2) (.inl fun d hd => ?_) hz (fun b m => ?_) (ksk_s1 _ _) (fun _ => ksk_l1 _ _) (fun _ => ksk_t1 _ _)
    (fun v b hv m h tk kp => ?_) fun out c h' tk kp fr hD lo eo => ?_
  · obtain ⟨b, m, rfl⟩ := List.mem_map.mp hd
    exact ⟨_, _, rfl⟩
  · have := depth_encK b.2
    have := hr.un
    omega
  · obtain ⟨t, us, rfl, _, ⟨o, ho, hr3⟩, hi, lz⟩ := hv
    have ln := hi.length
    have kt := key_turn (s := { s2 with heap := h, toks := tk }) (prog := X.prog) (w := X.w) (A := X.A.in1.in1) (mg := X.mg) (mb := mb) (its := us) (xs := b.2.map .int) (t := t) (by have := hr.dp; show X.A.depth < recursionLimit; omega) (kp _ _ ef) ⟨d, oc, cvs, ct, rfl, kp _ _ c1, c2, c3⟩ ((I2.mod.glob.keeps I2.bk).keeps kp) hln ((b1.keeps I2.bk).keeps kp) ((b2 "len" (by decide)).trans (by first | rfl | kernel_rfl)) (I2.nolimit.keeps kp) k1 k2 k3 kc kx kl (bd _ _ _ _ _) xd ⟨o, kp _ _ ho, hr3⟩ lz (reads_ints hi)
    have el : (us.length : Int) = (b.2.length : Int) := by rw [ln]
    rw [el] at kt
    exact kt
  · have ev := vals_each (each_and eo fun v b m ⟨_, _, _, r, _⟩ => r)
    have hlen : ((bs.mergeSort fun a b : TupB => leK a.2 b.2).map (·.1)).length ≤ sizeLine := by
      rw [List.length_map, List.length_mergeSort]
      exact hz
    exact ⟨.ref _, upd H2 (s2.heap.objs.size + 1) (.lst ((bs.mergeSort fun a b : TupB => leK a.2 b.2).map (·.1))), I2.laid (t' := tk) kp (Nat.le_succ _) ⟨hlen, out, c, ev, hD⟩, rfl, q _ (I2.hok.fresh (Nat.le_succ _))⟩⟩
end
end Fw

/-! Wp: worlds with a table of code objects; defs that make a lambda there, and defs that call such. -/
namespace Wp
open PySem L2 Fw LamX
open PyProof.Rows (envOfC)
/-- a world in which the table at T0 may be written -/
structure HasTab (W : Wd) (T0 : Addr) (q : Str) : Prop where
  mem : T0 ∈ W.ws
  tab : ∀ H, W.P H → TabS H T0 q
  put : ∀ H H', W.P H → ExtP T0 H H' → TabS H' T0 q → W.P H'
def WTb (T0 : Addr) (q : Str) : Wd where
  ws := [T0]
  P := fun H => TabS H T0 q
  sup := fun H H' k e ⟨ps, t1, t2, t3⟩ => ⟨ps, k _ (by simp) _ t1, t2, fun p v hc => let ⟨c, c1, c2⟩ := t3 p v hc; ⟨c, c1, e _ _ c2⟩⟩
theorem hasTab0 (T0 : Addr) (q : Str) : HasTab (WTb T0 q) T0 q := ⟨by simp [WTb], fun H h => h, fun H H' _ _ t => t⟩
theorem hasTabT (K : PySem.W.Frag) (A : DrawT) : HasTab (TW K A) A.P A.q := ⟨by simp [TW], fun H h => h.2, fun H H' h e t => by
  obtain ⟨S, h1, h2⟩ := h.1
  exact ⟨⟨S, e _ _ (Ne.symm A.nd) h1, e _ _ (Ne.symm A.nl) h2⟩, t⟩⟩
theorem hasTab_wo {W : Wd} {T0 : Addr} {q : Str} {oc : Option (Addr × Addr)} (h : HasTab W T0 q) : HasTab (WO W oc) T0 q := ⟨h.mem, h.tab, h.put⟩
/-- defs that hand back data, the table written -/
def spPT (K : PySem.W.Frag) (T0 : Addr) (q : Str) (G : List PyData → PyData → Prop) : Sp := fun vs H Q _ => ∃ (ms : List Addr) (ds : List PyData) (d : PyData), T0 ∈ ms ∧ Live ms H ∧ TabS H T0 q ∧ DpAll K (cut ms H) vs ds ∧ G ds d ∧ ∀ v H', ExtP T0 H H' → Live ms H' → TabS H' T0 q → Dp K (cut ms H') v d → Q v H'
def spXT (K : PySem.W.Frag) (T0 : Addr) (q : Str) (O : List PyData → Sc.Out → Prop) : Sp := fun vs H Q E => ∃ (ms : List Addr) (ds : List PyData) (o : Sc.Out), T0 ∈ ms ∧ Live ms H ∧ TabS H T0 q ∧ DpAll K (cut ms H) vs ds ∧ O ds o ∧
  (∀ d, o = .ok d → ∀ v H', ExtP T0 H H' → Live ms H' → TabS H' T0 q → Dp K (cut ms H') v d → Q v H') ∧ ∀ c, o = .no c → ∀ H', ExtP T0 H H' → Live ms H' → TabS H' T0 q → E (.ref c) none H'
section
variable {K : PySem.W.Frag} {W : Wd} {r T0 : Addr} {q : Str} {X : WX} {ms : List Addr} {B : Bs} {H H' : Hp} {ρ : List Sl} {σ : St} {te : TE} {tA : TA} {fe : FE} {fA : FA} {n : Nat} {E : XK} {Es : St → XK} {G : List PyData → PyData → Prop} {O : List PyData → Sc.Out → Prop}
theorem xw_ext (hw : HasTab W T0 q) (e : ExtP T0 H H') : XW W.ws H H' := fun a o n z => e a o (fun w => n (by rw [w]; exact hw.mem)) z
theorem at_tab (hw : HasTab W T0 q) (h : At K W ms B ρ σ H) (e : ExtP T0 H H') (l : Live ms H') (t : TabS H' T0 q) : At K W ms B ρ σ H' := h.go (xw_ext hw e) l (hw.put _ _ h.p e t)
theorem je_callPT (hw : HasTab W T0 q) (ha : JA K W r n tA fA) : JE K W r (tCall (spPT K T0 q G) [] E tA) (fun env Φ => fA env fun ds => ∃ d, G ds d ∧ Φ d) := fun env Φ φ ms B σ H g Q k => by
  refine ha env _ φ ms B σ H g _ fun ds vs H1 ψ h1 x1 o1 => ?_
  obtain ⟨_, d, hg, ψ⟩ := ψ
  show spPT K T0 q G (vs ++ []) H1 Q E
  rw [List.append_nil]
  exact ⟨ms, ds, d, h1.sub _ hw.mem, h1.live, hw.tab _ h1.p, o1, hg, fun v H2 e l t o2 => k (.dat d) v H2 ⟨d, rfl, ψ⟩ (at_tab hw h1 e l t) (x1.trans (xw_ext hw e)) o2⟩
theorem je_callXT (hw : HasTab W T0 q) (ha : JA K W r n tA fA) : JE K W r (tCall (spXT K T0 q O) [] E tA) (fun env Φ => fA env fun ds => ∃ d, O ds (.ok d) ∧ Φ d) := fun env Φ φ ms B σ H g Q k => by
  refine ha env _ φ ms B σ H g _ fun ds vs H1 ψ h1 x1 o1 => ?_
  obtain ⟨_, d, hg, ψ⟩ := ψ
  show spXT K T0 q O (vs ++ []) H1 Q E
  rw [List.append_nil]
  exact ⟨ms, ds, .ok d, h1.sub _ hw.mem, h1.live, hw.tab _ h1.p, o1, hg, fun d' e v H2 e2 l t o2 => by cases e; exact k (.dat d) v H2 ⟨d, rfl, ψ⟩ (at_tab hw h1 e2 l t) (x1.trans (xw_ext hw e2)) o2, fun c e => (nomatch e)⟩
theorem jc_dropXT (hw : HasTab W T0 q) (h : JA K W r n tA fA) (hE : ∀ c d σ H, X (.ref c) d σ H → Es σ (.ref c) d H) : JS K W r X (tDrop (tCallS (spXT K T0 q O) Es tA)) (fun env P => fA env fun ds => ∃ o, (O ds o ∧ ∀ c f d, o ≠ .fd c f d) ∧ outF o (fun _ => P.nx env) (fun c => P.ex c env) fun c f d => P.exf c f d env) := fun env P φ h0 hc ms0 σ H D ⟨ms, ρ, os, a⟩ k =>
  h _ _ φ _ _ σ H a.lent _ fun ds vs H1 ψ g x o => by
    obtain ⟨_, out, ⟨ho, nf⟩, ψ⟩ := ψ
    refine ⟨les os ms, ds, out, g.sub _ hw.mem, g.live, hw.tab _ g.p, o, ho, fun d e v H2 e2 l t o2 => ?_, fun c e H2 e2 l t => ?_⟩
    · subst e
      exact k.nx _ _ _ ψ ⟨_, _, _, a.backL (at_tab hw g e2 l t) (x.trans (xw_ext hw e2))⟩
    · subst e
      exact hE c none σ H2 (k.ex c env σ H2 ψ ⟨_, _, _, a.backL (at_tab hw g e2 l t) (x.trans (xw_ext hw e2))⟩)
/-- sorted(xs, key=lambda x: (len(x), x)) -/
def sortKK (d : PyData) (Φ : List PyData → Prop) : Prop := ∃ L : List (List Int), d = .list (L.map encT) ∧ Φ ((L.mergeSort leK).map encT)
theorem tup_bs {H : Hp} : ∀ {L : List (List Int)} {vs : List V}, DpAll K H vs (L.map encT) → ∃ bs : List TupB, vs = bs.map (·.1) ∧ L = bs.map (·.2) ∧ ∀ b ∈ bs, TupI K H b.1 b.2
  | [], vs, h => by cases h; exact ⟨[], rfl, rfl, by simp⟩
  | ns :: L, vs, h => by
    cases h with
    | cons h1 h2 =>
      obtain ⟨bs, e1, e2, hb⟩ := tup_bs h2
      rename_i v vs'
      have h1 : Dp K H v (.tuple (ns.map .int)) := h1
      cases h1 with
      | @tup p xs _ hs hd =>
        rw [dpa_ints hd] at hs
        refine ⟨(.ref p, ns) :: bs, by rw [e1]; rfl, by rw [e2]; rfl, fun b hm => ?_⟩
        rcases List.mem_cons.mp hm with e | e
        · rw [e]; exact ⟨p, rfl, hs⟩
        · exact hb b e
theorem bs_tup {H : Hp} : ∀ {bs : List TupB}, (∀ b ∈ bs, TupI K H b.1 b.2) → DpAll K H (bs.map (·.1)) ((bs.map (·.2)).map encT)
  | [], _ => .nil
  | b :: bs, h => by
    obtain ⟨t, e, st⟩ := h b List.mem_cons_self
    rw [List.map_cons, List.map_cons, List.map_cons, e]
    exact .cons (.tup st (dpa_of_ints _ _ _)) (bs_tup fun c hc => h c (List.mem_cons_of_mem _ hc))
theorem tupI_mono {H H' : Hp} {x : V} {ns : List Int} (s : Same H H') (h : TupI K H x ns) : TupI K H' x ns := let ⟨t, e, st⟩ := h; ⟨t, e, sqt_mono s st⟩
theorem je_sortK (hw : HasTab W T0 q) (h : JE K W r te fe) : JE K W r (tSortK K T0 q te) (fun env Φ => fe env fun d => sortKK d fun es => Φ (.list es)) := fun env Φ φ ms B σ H g Q k => by
  refine h env _ φ ms B σ H g _ fun s v H1 ψ h1 x1 o1 => ?_
  obtain ⟨_, rfl, L, rfl, ψ⟩ := ψ
  cases o1 with
  | @lst a xs _ hs hd =>
    obtain ⟨bs, rfl, rfl, hb⟩ := tup_bs hd
    refine ⟨a, bs, rfl, hw.tab _ h1.p, fun H2 e t => ?_⟩
    have l2 : Live ms H2 := fun b m => by
      by_cases z : b = T0
      · obtain ⟨tb, t1, _⟩ := t
        exact ⟨_, by rw [z]; exact t1⟩
      · obtain ⟨o, w⟩ := h1.live b m
        exact ⟨o, e b o z w⟩
    have g2 := at_tab hw h1 e l2 t
    have s2 : Same (cut ms H1) (cut ms H2) := (xw_ext hw e).cut h1.sub
    have s3 : Same (cut ms H1) H2 := s2.trans cut_le
    refine ⟨sql_mono s3 hs, fun b hm => tupI_mono s3 (hb b hm), fun p hp => ?_⟩
    have dd := bs_tup (bs := bs.mergeSort fun a b => leK a.2 b.2) fun b hm => tupI_mono s2 (hb b (List.mem_mergeSort.mp hm))
    have em : (bs.mergeSort fun a b => leK a.2 b.2).map (·.2) = (bs.map (·.2)).mergeSort leK := List.map_mergeSort fun a _ b _ => rfl
    rw [em] at dd
    exact k (.dat (.list _)) _ _ ⟨_, rfl, ψ⟩ (g2.same (same_put hp)) ((x1.trans (xw_ext hw e)).trans (.of_same (same_put hp))) (Sl.new_lst g2.live hp dd)
/-- what is read in a world is read where an exception is kept too -/
theorem je_wo {oc : Option (Addr × Addr)} (h : JE K W r te fe) : JE K (WO W oc) r te fe := fun env Φ φ ms B σ H g Q k => by
  refine h env Φ φ ms B σ H (at_uo g) Q fun s v H1 ψ h1 x1 o1 => k s v H1 ψ ?_ x1 o1
  exact ⟨h1.sub, h1.live, h1.env, h1.p, h1.xw, h1.st, h1.c, fun c a e => x1.cut g.sub _ _ (g.c.2 c a e)⟩
/-- sorted(xs), tuples of ints -/
def sortOK (ds : List PyData) (Φ : List PyData → Prop) : Prop := ∃ L : List (List Int), ds = [.list (L.map encT)] ∧ ((∀ v ∈ L, v ≠ []) ∨ L.length ≤ 1 ∧ ∀ v ∈ L, v = []) ∧ Φ ((L.mergeSort leT).map encT)
theorem je_sortO (h : JA K W r 1 tA fA) : JE K W r (tCB (rSortedTO K) tA) (fun env Φ => fA env fun ds => sortOK ds fun es => Φ (.list es)) := fun env Φ φ ms B σ H g Q k => by
  refine h env _ φ ms B σ H g _ fun ds vs H1 ψ h1 x1 o1 => ?_
  obtain ⟨_, L, rfl, ne, ψ⟩ := ψ
  cases o1 with
  | cons o1 on =>
    cases on
    cases o1 with
    | @lst a xs _ hs hd =>
      obtain ⟨bs, rfl, rfl, hb⟩ := tup_bs hd
      refine ⟨a, bs, rfl, sql_mono cut_le hs, fun b hm => tupI_mono cut_le (hb b hm), ne.imp (fun ne b hm => ne _ (List.mem_map_of_mem hm)) fun ⟨l1, em⟩ => ⟨by rwa [List.length_map] at l1, fun b hm => em _ (List.mem_map_of_mem hm)⟩, fun p hp => ?_⟩
      have dd := bs_tup (bs := bs.mergeSort fun a b => leT a.2 b.2) fun b hm => hb b (List.mem_mergeSort.mp hm)
      have em : (bs.mergeSort fun a b => leT a.2 b.2).map (·.2) = (bs.map (·.2)).mergeSort leT := List.map_mergeSort fun a _ b _ => rfl
      rw [em] at dd
      exact k (.dat (.list _)) _ _ ⟨_, rfl, ψ⟩ (h1.same (same_put hp)) (x1.trans (.of_same (same_put hp))) (Sl.new_lst h1.live hp dd)
end
section
variable {P : Program} {w : World} {K : PySem.W.Frag} {mg : Str → Option Value} {base : Heap} {T0 : Addr} {q : Str}
theorem at_startT {N : List Str} {ms : List Addr} {H : Hp} {vs : List V} {ds : List PyData} (m : T0 ∈ ms) (l : Live ms H) (t : TabS H T0 q) (o : DpAll K (cut ms H) vs ds) : At K (WTb T0 q) ms ⟨H, H⟩ (slots N.length ds) (L2.start N vs) H := by
  have h := at_start (N := N) l o
  exact ⟨fun a z => by rw [List.mem_singleton.mp z]; exact m, h.live, h.env, t, .refl H, h.st, trivial⟩
theorem ext_of {H H' : Hp} (x : XW (WTb T0 q).ws H H') : ExtP T0 H H' := fun a o n e => x a o (fun z => n (List.mem_singleton.mp z)) e
theorem pureWT {x qual : Str} {st : Stmt} {fa : Addr} {fd : FuncData} {N ps : List Str} {k : Nat} {G : List PyData → PyData → Prop} (F : Fun K x qual st fa fd) (S : FnScope N ps (defScope st)) (hG : ∀ ds d, G ds d → ds.length = ps.length)
    (hb : ∀ (cdv : Value) (A : Around) (outer : List Env) (s : Shared) (H : Hp) (E : XK), fd.code = cdv → Room k (A.deeper (envOfC qual (defScope st) s.heap.objs.size fa cdv)) →
      ∃ t f, PSs (cxOf CX0 P w K mg base N qual (defScope st) fa cdv A outer s H E).nox (defBody st) t ∧ JS K (WTb T0 q) 0 (fun _ _ _ _ => False) t f ∧ ∀ ds d, G ds d → f (args N.length ds) { nx := fun _ => d = .none, rt := (· = d) }) : FnOk P w K mg base CX0 (k + 1) fa fd ps (spPT K T0 q G) := by
  obtain ⟨oc, od, kV, dc, pm, an, cdv, ct, osl, rfl, lk, hcd⟩ := F.ex
  refine fn_of lk hcd S (fun vs H Q E h => ?_) fun A outer s H vs Q E hr h => ?_
  · obtain ⟨ms, ds, d, _, l, _, o, g, _⟩ := h
    rw [dpa_len o, hG ds d g]
  · obtain ⟨ms, ds, d, m, l, t, o, g, kq⟩ := h
    obtain ⟨t', f, ht, hj, hf⟩ := hb cdv A outer s H E rfl hr
    refine ⟨t', ht.nox, ?_⟩
    exact hj _ _ (hf ds d g) H (cut ms H) ms _ H _ (atE_start (at_startT m l t o)) ⟨fun e σ H' z ⟨_, _, _, a⟩ => by subst z; have b := a.end_.un2 a.hcE; exact kq .non H' (ext_of b.xw) b.live b.p .non, fun d' v H' z a s o => by subst z; have b := a.un2 s; exact kq v H' (ext_of b.xw) b.live b.p o, fun e σ H' z a => False.elim z, fun e σ H' z a => False.elim z, fun c e σ H' z a => False.elim z, fun c f d e σ H' dx v z => False.elim z, fun o v H' z => False.elim z⟩
theorem raiseWT {x qual : Str} {st : Stmt} {fa : Addr} {fd : FuncData} {N ps : List Str} {k : Nat} {O : List PyData → Sc.Out → Prop} (F : Fun K x qual st fa fd) (S : FnScope N ps (defScope st)) (hG : ∀ ds o, O ds o → ds.length = ps.length)
    (hb : ∀ (cdv : Value) (A : Around) (outer : List Env) (s : Shared) (H : Hp) (E : XK), Room k (A.deeper (envOfC qual (defScope st) s.heap.objs.size fa cdv)) →
      ∃ t f, PSs (cxOf (L2.CX P w) P w K mg base N qual (defScope st) fa cdv A outer s H E) (defBody st) t ∧ JS K (WTb T0 q) 0 (fun c d _ H => E c d H) t f ∧ ∀ ds o, O ds o → f (args N.length ds) { nx := fun _ => o = .ok .none, rt := fun d => o = .ok d, ex := fun c _ => o = .no c }) : FnOk P w K mg base (L2.CX P w) (k + 1) fa fd ps (spXT K T0 q O) := by
  refine F.okX S (fun vs H Q E h => ?_) fun cdv A outer s H vs Q E hr h => ?_
  · obtain ⟨ms, ds, o, _, l, _, d, g, _⟩ := h
    rw [dpa_len d, hG ds o g]
  · obtain ⟨ms, ds, o, m, l, t, d, g, q1, q2⟩ := h
    obtain ⟨t', f, ht, hj, hf⟩ := hb cdv A outer s H E hr
    refine ⟨t', ht, ?_⟩
    exact hj _ _ (hf ds o g) H (cut ms H) ms _ H _ (atE_start (at_startT m l t d)) ⟨fun e σ H' z ⟨_, _, _, a⟩ => by have b := a.end_.un2 a.hcE; exact q1 _ z .non H' (ext_of b.xw) b.live b.p .non, fun d' v H' z a s o => by have b := a.un2 s; exact q1 _ z v H' (ext_of b.xw) b.live b.p o, fun e σ H' z a => False.elim z, fun e σ H' z a => False.elim z, fun c e σ H' z ⟨_, _, _, a⟩ => by have b := a.end_.un2 a.hcE; exact q2 c z H' (ext_of b.xw) b.live b.p, fun c f d e σ H' dx v z => False.elim z, fun o v H' z => False.elim z⟩
end
end Wp

/-! {"a": 2, "b": 1}.get(e, f). -/
namespace Wp
open PySem L2 Fw
section
variable {K : PySem.W.Frag} {W : Wd} {r : Addr} {te tf : TE} {fe ff : FE}
def get2K (k1 k2 : Str) (v1 v2 : Int) (x y : PyData) (Φ : PyData → Prop) : Prop := strK x fun s => ifK (decide (s = k1)) (Φ (.int v1)) (ifK (decide (s = k2)) (Φ (.int v2)) (Φ y))
theorem je_get2 {k1 k2 : Str} {v1 v2 : Int} (ne : k1 ≠ k2) (he : JE K W r te fe) (hf : JE K W r tf ff) : JE K W r (tDGet2 (tDisp [(tC (.str k1), tC (.int v1)), (tC (.str k2), tC (.int v2))]) te tf) (fun env Φ => fe env fun x => ff env fun y => get2K k1 k2 v1 v2 x y Φ) := fun env Φ φ ms B σ H a Q q => by
  intro p hp
  obtain ⟨p0, pm, pw⟩ := a.fresh hp
  have hm : mergeK [] [((.inr k1 : Key), V.int v1), (.inr k2, .int v2)] = [(.inr k1, .int v1), (.inr k2, .int v2)] := by
    have n2 : ¬ ((.inr k1 : Key) = .inr k2) := fun e => ne (by cases e; rfl)
    simp [mergeK, putK, n2]
  show (upd H p (.dK [])) p = some (.dK []) ∧ _
  refine ⟨upd_same, [(.inr k1, .int v1), (.inr k2, .int v2)], rfl, by show 2 ≤ 15; decide, p, rfl, .inl ⟨_, .inl upd_same⟩, ?_⟩
  rw [hm]
  have a1 : At K W (p :: ms) ⟨H, H⟩ (env.map (low r)) σ (upd (upd H p (.dK [])) p (.dK [((.inr k1 : Key), .int v1), (.inr k2, .int v2)])) := (a.base.own (o := .dK []) hp).write List.mem_cons_self pw hp (fun f e => by rw [upd_same] at e; cases e)
  have s1 : XW W.ws H (upd (upd H p (.dK [])) p (.dK [((.inr k1 : Key), .int v1), (.inr k2, .int v2)])) := fun b o n e => by
    have nb : b ≠ p := fun z => by rw [z, hp] at e; cases e
    rw [upd_ne nb, upd_ne nb]
    exact e
  have e1 : (upd (upd H p (.dK [])) p (.dK [((.inr k1 : Key), V.int v1), (.inr k2, .int v2)])) p = some (.dK [(.inr k1, .int v1), (.inr k2, .int v2)]) := upd_same
  revert a1 s1 e1
  generalize upd (upd H p (.dK [])) p (.dK [((.inr k1 : Key), V.int v1), (.inr k2, .int v2)]) = H1
  intro a1 s1 e1
  refine he env _ φ (p :: ms) ⟨H, H⟩ σ H1 a1 _ fun s x H2 ψ h2 x2 o2 => ?_
  obtain ⟨dx, rfl, ψ⟩ := ψ
  refine hf env _ ψ (p :: ms) ⟨H, H⟩ σ H2 h2 _ fun s y H3 ψ2 h3 x3 o3 => ?_
  obtain ⟨dy, rfl, ψ2⟩ := ψ2
  obtain ⟨t, rfl, ψ3⟩ := strK_of ψ2
  cases o2
  have e3 := x3 _ _ pw (x2 _ _ pw e1)
  have back : At K W ms B (env.map (low r)) σ H3 := a.back h3 rfl fun b z => List.mem_cons_of_mem _ z
  refine ⟨_, .inl ⟨_, (.inr t : Key), .inl e3, rfl, rfl⟩, ?_⟩
  by_cases q1 : t = k1
  · subst q1
    rw [valV_pos rfl]
    rw [decide_eq_true rfl] at ψ3
    exact q (.dat (.int v1)) _ H3 ⟨_, rfl, ψ3⟩ back ((s1.trans x2).trans x3) (.int v1)
  · rw [valV_neg (fun e => q1 (by cases e; rfl))]
    rw [decide_eq_false q1] at ψ3
    have ψ4 : ifK (decide (t = k2)) (Φ (.int v2)) (Φ dy) := ψ3
    by_cases q2 : t = k2
    · subst q2
      rw [valV_pos rfl]
      rw [decide_eq_true rfl] at ψ4
      exact q (.dat (.int v2)) _ H3 ⟨_, rfl, ψ4⟩ back ((s1.trans x2).trans x3) (.int v2)
    · rw [valV_neg (fun e => q2 (by cases e; rfl)), valV_nil]
      rw [decide_eq_false q2] at ψ4
      exact q (.dat dy) _ H3 ⟨_, rfl, ψ4⟩ back ((s1.trans x2).trans x3) (dp_mono (cut_sub fun b z => List.mem_cons_of_mem _ z) _ _ o3)
end
end Wp

/-! Wp: calls by three keywords, turned. -/
namespace Sc
open PySem L2 Fw
def g_3 (us ws : List Value) : List Value := match us, ws with | [], [a, b, c] => [c, b, a] | _, _ => []
def gV_3 (us ws : List V) : List V := match us, ws with | [], [a, b, c] => [c, b, a] | _, _ => []
theorem kb_3 {K : PySem.W.Frag} {fd : FuncData} {x y z : Str} (h : ∀ (s : Shared) (a b c : Value), BindsTo s fd ⟨[], [(z, a), (y, b), (x, c)]⟩ [(x, c), (y, b), (z, a)]) : KBinds K fd [x, y, z] [z, y, x] g_3 gV_3 := by
  refine ⟨fun s us ws _ hl => ?_, fun {vs us zs ws} r rz => ?_⟩
  · revert hl
    unfold g_3
    split
    · exact fun _ => h s _ _ _
    · exact fun q => nomatch q
  · cases r with
    | cons _ _ => exact .nil
    | nil =>
      cases rz with
      | nil => exact .nil
      | cons a rz =>
        cases rz with
        | nil => exact .nil
        | cons b rz =>
          cases rz with
          | nil => exact .nil
          | cons c rz =>
            cases rz with
            | nil => exact .cons c (.cons b (.cons a .nil))
            | cons d rz => exact .nil
end Sc
namespace Wp
open PySem L2 Fw
def threeK (ds : List PyData) (Φ : PyData → PyData → PyData → Prop) : Prop := match ds with
  | [d, e, f] => Φ d e f
  | _ => False
theorem threeK_of {ds : List PyData} {Φ : PyData → PyData → PyData → Prop} (h : threeK ds Φ) : ∃ d e f, ds = [d, e, f] ∧ Φ d e f := by
  match ds, h with
  | [d, e, f], h => exact ⟨d, e, f, rfl, h⟩
section
variable {K : PySem.W.Frag} {W : Wd} {r : Addr} {tA : TA} {fA : FA} {E : XK} {O : List PyData → Sc.Out → Prop}
theorem je_callK3 (ha : JA K W r 3 tA fA) : JE K W r (tCallK (Sc.spX K O) Sc.gV_3 E tNil tA) (fun env Φ => fA env fun ds => threeK ds fun a b c => ∃ d, O [c, b, a] (.ok d) ∧ Φ d) := fun env Φ φ ms B σ H g Q q => by
  show tA σ H _
  refine ha env _ φ ms B σ H g _ fun ds vs H1 ψ h1 x1 o1 => ?_
  obtain ⟨_, ψ⟩ := ψ
  obtain ⟨a, b, c, rfl, d, ho, ψ⟩ := threeK_of ψ
  cases o1 with
  | cons o1 on =>
    cases on with
    | cons o2 on =>
      cases on with
      | cons o3 on =>
        cases on
        exact ⟨ms, [c, b, a], .ok d, h1.live, .cons o3 (.cons o2 (.cons o1 .nil)), ho, fun d' e v H2 s2 o2 => by cases e; exact q (.dat d) v H2 ⟨d, rfl, ψ⟩ (h1.same s2) (x1.trans (.of_same s2)) o2, fun c e => (nomatch e), fun c f d e => (nomatch e)⟩
end
end Wp

/-! Defs that are called where the guards of repr are known; repr of a tuple, a list or None. -/
namespace Fw
open PySem PySem.Spec PyProof.Rows L2 LamX
structure FnG (P : Program) (w : World) (K : PySem.W.Frag) (mg : Str → Option Value) (base : Heap) (k : Nat) (f : Addr) (fd : FuncData) (ps : List Str) (sp : Sp) : Prop where
  len : ∀ vs H Q E, sp vs H Q E → vs.length = ps.length
  run : ∀ (A : Around) (outer : List Env) (s : Shared) (H : Hp) (args : Args) (us : List Value) (vs : List V) (Q : VK) (E : XK), Room k A → A.guards = some [] → Env0 P w K mg base A outer s H → BindsTo s fd args (ps.zip us) → Vals vs us → sp vs H Q E →
    codeAny (model P w) A (.call (.ref f) args) (CR C8.CX0 outer P w H s Q E) s
section
variable {P : Program} {w : World} {K : PySem.W.Frag} {mg : Str → Option Value} {base : Heap}
theorem okG {x qual : Str} {st : Stmt} {f : Addr} {fd : FuncData} {N ps : List Str} {k : Nat} {sp : Sp} (F : Fun K x qual st f fd) (S : FnScope N ps (defScope st)) (len : ∀ vs H Q E, sp vs H Q E → vs.length = ps.length)
    (hbody : ∀ (cdv : Value) (A : Around) (outer : List Env) (s : Shared) (H : Hp) (vs : List V) (Q : VK) (E : XK), Room k (A.deeper (envOfC qual (defScope st) s.heap.objs.size f cdv)) → (A.deeper (envOfC qual (defScope st) s.heap.objs.size f cdv)).guards = some [] → sp vs H Q E →
      ∃ t, PSs (cxOf C8.CX0 P w K mg base N qual (defScope st) f cdv A outer s H E).nox (defBody st) t ∧ t { nx := fun _ H' => Q .non H', rt := Q } (L2.start N vs) H) : FnG P w K mg base (k + 1) f fd ps sp := by
  obtain ⟨oc, od, kV, doc, pm, an, cdv, ct, osl, rfl, lk, hcd⟩ := F.ex
  refine ⟨len, fun A outer s H args us vs Q E hr hg e0 hb r hsp => ?_⟩
  refine run_ofS (CX := C8.CX0) (N := N) lk hcd S hr e0 hb r (len _ _ _ _ hsp) fun hr2 => ?_
  obtain ⟨t, h, q⟩ := hbody cdv A outer s H vs Q E hr2 hg hsp
  exact ⟨t, h.nox, q⟩
end
section
variable {X : Cx} {x : Str} {p pos : Pos} {e : Expr} {es : List Expr} {t : TA}
theorem kcallG {k : Nat} {f : Addr} {fd : FuncData} {ps : List Str} {sp : Sp} (gd : X.A.guards = some []) (F : FnG X.prog X.w X.K X.mg X.base k f fd ps sp) (hr : Room k X.A) (hm : X.mg x = some (.ref f)) (hk : PySem.W.keepIn X.K (.ref f) = true) (hb : Binds X.K fd ps []) (ha : PA X (e :: es) t)
    (hg : X.env.kindOf x = some .globalImplicit := by kernel_rfl) (h1 : (x == ("__debug__" : Str)) = false := by kernel_rfl) (h2 : starEach (e :: es) X.env = (false, eval e X.env) :: starEach es X.env := by kernel_rfl) (h3 : (backTo pos (starEach es X.env)).any (·.1) = false := by kernel_rfl) :
    PE X (.Call (.Name x p) (e :: es) [] pos) (tCall sp [] C8.E0 t) := by
  refine ⟨fun pins s σ H Q I h => ?_⟩
  refine wpAny_Call_Name_kw (ld_glob I hg hm ?_ h1)
  refine PySem.W.callWith_K (h₀ := X.base) I.ok.mod.kin hk (thn (ha.run pos pins s σ H _ I h) fun us s1 ⟨vs, H1, I1, r, q⟩ => ⟨I1.kIn, ?_⟩) h2 h3
  have q : sp (vs ++ []) H1 Q C8.E0 := q
  rw [List.append_nil] at q
  have hl : us.length = ps.length := by rw [← r.length]; exact F.len _ _ _ _ q
  refine wpAny_call (codeAny_mono (F.run X.A X.stack s1 H1 ⟨us, []⟩ us vs Q C8.E0 hr gd I1.env0 (by have := hb s1 us I1.kIn (by simpa using hl); simpa using this) r q) fun r s' hq => ?_)
  match r, hq with
  | .error e, hq => exact (show False from hq).elim
  | .ok (.ret u), hq => exact I1.after hq
  | .ok .next, hq => exact hq.elim
  | .ok .brk, hq => exact hq.elim
  | .ok .cont, hq => exact hq.elim
def rReprN (K : PySem.W.Frag) : List V → Hp → VK → Prop := fun vs H Q => rReprD K vs H Q ∨ vs = [.non] ∧ Q (.str "None") H
theorem cr_reprN (hg : X.A.guards = some []) (hu : X.A.units + 64 < cLine) : CallR X (.builtin "repr") (rReprN X.K) := fun pins s σ H xs us Q I r h => by
  rcases h with h | h
  · exact cr_reprD hg hu pins s σ H xs us Q I r h
  · exact cr_reprO pins s σ H xs us Q I r (.inr h)
end
end Fw
namespace Wp
open PySem L2 Fw PyProof.Rows
def reprNK (ds : List PyData) (Φ : PyData → Prop) : Prop := oneK ds fun d => (d = .none ∨ Shows d) ∧ Φ (.str d.shown)
section
variable {K : PySem.W.Frag} {W : Wd} {r : Addr} {tA : TA} {fA : FA}
theorem je_reprN (h : JA K W r 1 tA fA) : JE K W r (tCB (rReprN K) tA) (fun env Φ => fA env fun ds => reprNK ds Φ) := je_liftA (F := fun a => tCB (rReprN K) a) h (fun σ H Q h => h) fun ds Φ _ h => by
  obtain ⟨d, rfl, hd, h⟩ := oneK_of h
  rcases hd with rfl | ⟨C, n, s, hC, hn, hr⟩
  · refine ⟨_, h, fun W' a ρ e => ?_⟩
    intro ms B σ H g Q q
    refine e ms B σ H g _ fun vs H1 g1 x1 o1 => ?_
    cases o1 with
    | cons o1 o2 =>
      cases o2
      cases o1
      exact .inr ⟨rfl, q _ H1 g1 x1 (.str _)⟩
  refine ⟨_, h, fun W' a ρ e => ?_⟩
  intro ms B σ H g Q q
  refine e ms B σ H g _ fun vs H1 g1 x1 o1 => .inl ?_
  cases o1 with
  | cons o1 o2 =>
    cases o2
    exact ev_say (te := fun _ H Q => Q _ H) (d := d) (W := WC W' K _ d) (ρ := []) (fun ms B σ H a Q q => q _ H a (.refl H) a.c.2) s hC hn hr ms ⟨H1, H1⟩ [] H1 ⟨g1.sub, g1.live, .nil, g1.p, .refl H1, Same.refl _, ⟨g1.c, o1⟩⟩ _ fun v H2 h2 x2 o2 => q v H2 (g1.go x2 h2.live h2.p) (x1.trans x2) o2
end
section
variable {P : Program} {w : World} {K : PySem.W.Frag} {mg : Str → Option Value} {base : Heap}
theorem pureWG {x qual : Str} {st : Stmt} {fa : Addr} {fd : FuncData} {N ps : List Str} {k : Nat} {G : List PyData → PyData → Prop} (F : Fun K x qual st fa fd) (S : FnScope N ps (defScope st)) (hG : ∀ ds d, G ds d → ds.length = ps.length)
    (hb : ∀ (cdv : Value) (A : Around) (outer : List Env) (s : Shared) (H : Hp) (E : XK), Room k (A.deeper (envOfC qual (defScope st) s.heap.objs.size fa cdv)) → (A.deeper (envOfC qual (defScope st) s.heap.objs.size fa cdv)).guards = some [] →
      ∃ t f, PSs (cxOf C8.CX0 P w K mg base N qual (defScope st) fa cdv A outer s H E).nox (defBody st) t ∧ JS K W0 0 (fun _ _ _ _ => False) t f ∧ ∀ ds d, G ds d → f (args N.length ds) { nx := fun _ => d = .none, rt := (· = d) }) : FnG P w K mg base (k + 1) fa fd ps (spP K G) := by
  refine okG F S (fun vs H Q E h => ?_) fun cdv A outer s H vs Q E hr hg h => ?_
  · obtain ⟨ms, ds, d, l, o, g, _⟩ := h
    rw [dpa_len o, hG ds d g]
  · obtain ⟨ms, ds, d, l, o, g, k⟩ := h
    obtain ⟨t, f, ht, hj, hf⟩ := hb cdv A outer s H E hr hg
    have hh := at_start (N := N) l o
    refine ⟨t, ht, ?_⟩
    exact hj _ _ (hf ds d g) H (cut ms H) ms _ H _ (atE_start hh) ⟨fun e σ H' q ⟨_, _, _, a⟩ => by subst q; have b := a.end_.un2 a.hcE; exact k .non H' b.xw.same .non, fun d' v H' q a s o => by subst q; have b := a.un2 s; exact k v H' b.xw.same o, fun e σ H' q a => False.elim q, fun e σ H' q a => False.elim q, fun c e σ H' q a => False.elim q, fun c f d e σ H' dx v q => False.elim q, fun o v H' q => False.elim q⟩
end
end Wp

/-! Lambdas that are kept, and called out of other frames: the maker's cells are as they were. -/
namespace Fw
open PySem PySem.Spec PyProof.Rows L2 LamX
/-- the cells of a frame are as they were, and untracked -/
structure Kept (X : Cx) (s s1 : Shared) (H1 : Hp) : Prop where
  cell : ∀ (y : Str) (c : Addr) (v : Option Value), X.env.cells.lookup y = some c → s.heap.IsCell c v → s1.heap.IsCell c v
  free : ∀ (y : Str) (c : Addr), X.env.cells.lookup y = some c → H1 c = none
section
variable {X : Cx} {pins : List (Addr × Obj)} {σ : L2.St} {H H1 H2 : Hp} {s s1 s2 : Shared} {fs ex : List Addr}
theorem Kept.self (I : Inv X pins σ H s) : Kept X s s H := ⟨fun _ _ _ _ z => z, I.freeC⟩
theorem Kept.go (I : Inv X pins σ H s) (k : Kept X s s1 H1) (u : Un fs ex H1 H2 s1.heap s2.heap) (nx : ∀ (y : Str) (c : Addr), X.env.cells.lookup y = some c → c ∉ ex) : Kept X s s2 H2 := ⟨fun y c v e z => by
    obtain ⟨o, ho, hd⟩ := k.cell y c v e z
    obtain ⟨sl, q⟩ := u.any ho (k.free y c e) (nx y c e)
    exact ⟨_, q, hd⟩, fun y c e => by
    obtain ⟨v, z⟩ := I.cell y c e
    obtain ⟨o, ho, _⟩ := k.cell y c v e z
    exact u.free c o ho (k.free y c e) (nx y c e)⟩
/-- the lambda's body is entered -/
theorem lam_begin {A : Around} {outer : List Env} {E : XK} {sc : Scope} {f d : Addr} {h2 : Heap} {tk : Nat} (I : Inv X pins σ H s) (L : LamS X.env.scope sc) (e0 : Env0 X.prog X.w X.K X.mg X.base A outer s1 H1) (hd : A.handled = none) (kc : Kept X s s1 H1)
    (ns : h2.Ns s1.heap.objs.size fun y => ([] : List (Str × Value)).reverse.lookup y) (kp : ∀ b o, s1.heap.get? b = some o → h2.get? b = some o) : Inv (lamCx X A outer s1 H1 E sc f d) [] σ H1 { s1 with heap := h2, toks := tk } := by
  have free := L.has I.ok
  have mine : ∀ {y c}, (cloFrom X.env.cells sc.names []).lookup y = some c → X.env.cells.lookup y = some c := fun {y c} e => by
    rcases cloFrom_mem (PySem.mem_of_lookup e) with m | ⟨m, ec⟩
    · exact nomatch m
    · obtain ⟨c0, e0⟩ := free _ m rfl
      have e0 : X.env.cells.lookup y = some c0 := e0
      have e1 : c = c0 := by rw [ec, e0] <;> rfl
      rw [e1]
      exact e0
  have got : ∀ {y}, sc.names.lookup y = some .free → ∃ c, (cloFrom X.env.cells sc.names []).lookup y = some c := fun {y} e => by
    have m : (y, NameKind.free) ∈ sc.names := PySem.mem_of_lookup e
    exact mem_lookup (cloFrom_has (acc := []) (cells := X.env.cells) m)
  have cellK : ∀ {y c} {v : Option Value}, X.env.cells.lookup y = some c → s.heap.IsCell c v → h2.IsCell c v := fun {y c v} e z => by
    obtain ⟨o, ho, q⟩ := kc.cell y c v e z
    exact ⟨o, kp _ _ ho, q⟩
  have none_ex : ∀ b : Addr, ¬ b ∈ (lamCx X A outer s1 H1 E sc f d).ex := fun b z => nomatch (show b ∈ ([] : List Addr) from z)
  have okk : (lamCx X A outer s1 H1 E sc f d).Ok := by
    refine ⟨e0.mod, L.kind, rfl, rfl, Nat.le_refl _, fun y z c e1 e2 => I.ok.inj y z c (mine e1) (mine e2), fun y m => ?_, fun y c z _ => ?_, fun _ => hd, Around.frames_deeper e0.frames, .inr ⟨rfl, rfl⟩, fun b z => absurd z (none_ex b), e0.bs, e0.bsz, fun b _ _ => none_ex b, fun b z => absurd z (none_ex b), e0.funs, e0.frf⟩
    · have m : sc.names.lookup y = some .cell ∨ sc.names.lookup y = some .free := m
      rcases m with m | m
      · exact absurd rfl (L.own _ (PySem.mem_of_lookup m)).2
      · exact got m
    · have z : false = true := z
      cases z
  refine ⟨okk, rfl, e0.bare, Un.kept kp, ⟨_, ns, fun i y v e1 e2 e3 => ?_⟩, fun y c e => ?_, e0.hok.fresh (Nat.le_refl _), fun y c e => kc.free y c (mine e), fun q m => absurd (show q ∈ ([] : List (Addr × Obj)) ++ [] from m) (by simp), e0.hok.kept kp, I.len⟩
  · have e3 : Vis sc y := e3
    rcases e3 with k | k | k
    · exact absurd rfl (L.own _ (PySem.mem_of_lookup k)).1
    · exact absurd rfl (L.own _ (PySem.mem_of_lookup k)).2
    · obtain ⟨m, _, look⟩ := I.loc
      have vis : Vis X.env.scope y := (L.free _ (PySem.mem_of_lookup k) rfl).elim (fun k => .inr (.inl k)) fun k => .inr (.inr k)
      obtain ⟨u, ru, lu⟩ := look i y v e1 e2 vis
      obtain ⟨c, ec⟩ := got k
      refine ⟨u, ru, .inr ⟨.inr k, c, ec, ?_⟩⟩
      have e4 := mine ec
      rcases lu with ⟨l, _⟩ | ⟨_, c3, e5, z⟩
      · have l : X.env.scope.names.lookup y = some .local := l
        rcases L.free _ (PySem.mem_of_lookup k) rfl with k2 | k2
        · rw [show X.env.scope.names.lookup y = _ from k2] at l
          cases l
        · rw [show X.env.scope.names.lookup y = _ from k2] at l
          cases l
      · rw [e4] at e5
        cases e5
        exact cellK e4 z
  · obtain ⟨v, z⟩ := I.cell y c (mine e)
    exact ⟨v, cellK (mine e) z⟩
/-- a function object that is known -/
def FnE (f : Addr) (ob : Obj) : HO := .ext fun h => h.get? f = some ob
/-- the lambda's object -/
def lamOb (X : Cx) (ar : Arguments) (el : Expr) (sc : Scope) (u : Value) (d : Addr) (v : Value) : Obj := PySem.W.kla_obj "<lambda>" (X.env.qual ++ "<lambda>") ar el sc (cloFrom X.env.cells sc.names []) u d v
/-- the lambda is called, in whatever frame -/
theorem thk_run {A : Around} {outer : List Env} {k : Nat} {f d : Addr} {u v : Value} {ar : Arguments} {el : Expr} {sc : Scope} {Q : VK} {E : XK} {tb : TE} (I : Inv X pins σ H s) (L : LamS X.env.scope sc) (e0 : Env0 X.prog X.w X.K X.mg X.base A outer s1 H1) (hd : A.handled = none) (hr : Room (k + 1) A) (kc : Kept X s s1 H1)
    (hf : H1 f = some (FnE f (lamOb X ar el sc u d v))) (hc : H1 d = some (CodeO d (X.env.qual ++ "<lambda>"))) (hb : bindArgs (PySem.W.kla_fn "<lambda>" (X.env.qual ++ "<lambda>") ar el sc (cloFrom X.env.cells sc.names []) u (.ref d) v) ⟨[], []⟩ = pure [])
    (body : ∀ (A : Around) (outer : List Env) (s : Shared) (H : Hp), Room k (A.deeper (lamEnv X sc s.heap.objs.size f d)) → PE (lamCx X A outer s H E sc f d) el tb) (ht : tb σ H1 Q) :
    codeAny (model X.prog X.w) A (.call (.ref f) ⟨[], []⟩) (CR (L2.CX X.prog X.w) outer X.prog X.w H1 s1 Q E) s1 := by
  obtain ⟨ef, _, _⟩ := e0.hok f _ hf
  obtain ⟨⟨oc, vs, t, c1, c2, c3⟩, _, _⟩ := e0.hok d _ hc
  have nl : s1.heap.NoLimit := e0.mod.nolimit.keeps fun b o q => (e0.bs b o q).1
  refine PySem.W.kla_callFunE hr.depth (show s1.heap.get? f = some (lamOb X ar el sc u d v) from ef) rfl L.co L.gen rfl ⟨d, oc, vs, t, rfl, c1, c2, c3⟩ ?_
  rw [hb]
  refine wpAny_pure (wpAny_newFunctionEnv (fun y m => (L.own y m).2) (fun y m => nomatch m) (fun h2 ns sb => ⟨nl.fresh _ sb, ?_⟩) L.kind)
  show codeAny _ _ (.expr el (lamEnv X sc s1.heap.objs.size f d)) _ _
  have kp : ∀ b o, s1.heap.get? b = some o → h2.get? b = some o := fun b o e => sb.extBut b o (Nat.ne_of_lt (Heap.lt_size e)) (Heap.get?_push_of_some _ e)
  have J : Inv (lamCx X A outer s1 H1 E sc f d) [] σ H1 { s1 with heap := h2, toks := s1.toks + ([] : List (Str × Value)).length } := lam_begin I L e0 hd kc ns kp
  refine PySem.W.kla_codeExpr (wpAny_mono ((body A outer s1 H1 (hr.deeper _)).run [] _ _ H1 Q J ht) (fun r s2 z => ?_) fun _ _ z => z)
  obtain ⟨x, H2, J2, rx, q⟩ := z
  exact ⟨x, H2, J2.os, J2.bare, J2.base, J2.hok, rx, q⟩
/-- a(), a parameter that holds a lambda made in another frame -/
theorem pe_thk {CXg : CXT} {Eg : XK} {Ng : List Str} {qg a : Str} {sg sc : Scope} {g f d : Addr} {cdg u v : Value} {A0 : Around} {st0 : List Env} {ar : Arguments} {el : Expr} {k i : Nat} {pn : List (Addr × Obj)} {xe : Value → Shared → Prop} {W : WX} {E : XK} {tb : TE} {p1 p2 : Pos}
    (I : Inv X pins σ H s) (L : LamS X.env.scope sc) (kc : Kept X s s1 H1) (hb : bindArgs (PySem.W.kla_fn "<lambda>" (X.env.qual ++ "<lambda>") ar el sc (cloFrom X.env.cells sc.names []) u (.ref d) v) ⟨[], []⟩ = pure [])
    (tk : Takes ((cxOf CXg X.prog X.w X.K X.mg X.base Ng qg sg g cdg A0 st0 s1 H1 Eg).tr pn xe) W) (hW : ∀ cls d σ' H', E cls d H' → W cls d σ' H') (hr : Room (k + 1) (A0.deeper (envOfC qg sg s1.heap.objs.size g cdg)))
    (body : ∀ (A : Around) (outer : List Env) (s : Shared) (H : Hp), Room k (A.deeper (lamEnv X sc s.heap.objs.size f d)) → PE (lamCx X A outer s H E sc f d) el tb) (hN : Ng[i]? = some a) (hv : Vis sg a) (h1 : (a == ("__debug__" : Str)) = false := by decide) (h2 : (a == ("__classdict__" : Str)) = false := by decide) :
    PE ((cxOf CXg X.prog X.w X.K X.mg X.base Ng qg sg g cdg A0 st0 s1 H1 Eg).tr pn xe) (.Call (.Name a p1) [] [] p2)
      (fun σZ HZ Q => σZ[i]? = some (some (.ref f)) ∧ HZ d = some (CodeO d (X.env.qual ++ "<lambda>")) ∧ HZ f = some (FnE f (lamOb X ar el sc u d v)) ∧ tb σ HZ Q) := ⟨fun pinsZ sZ σZ HZ Q IZ ⟨hs, hc, hf, ht⟩ => by
  refine wpAny_Call_Name_kw (thn ((pe_var (pos := p1) (i := i) hN hv h1 h2).run pinsZ sZ σZ HZ (fun w H3 => w = .ref f ∧ H3 = HZ) IZ ⟨.ref f, hs, rfl, rfl⟩) fun r s3 ⟨w, H3, I3, rw3, ew, eH⟩ => ?_)
  subst ew
  rw [eH] at I3
  obtain rfl : r = Value.ref f := rw3
  have base3 : Un (frs st0) [] H1 HZ s1.heap s3.heap := I3.base
  have k3 := Kept.go I kc base3 fun _ _ _ z => nomatch z
  obtain ⟨of3, _, _⟩ := I3.hok f _ hf
  refine PySem.W.callWith_F0 ⟨_, _, _, _, of3⟩ ?_
  have go := thk_run (Q := Q) (E := E) I L I3.env0 hr.hd hr k3 hf hc hb body ht
  have ps : Passes (L2.CX X.prog X.w) ((cxOf CXg X.prog X.w X.K X.mg X.base Ng qg sg g cdg A0 st0 s1 H1 Eg).tr pn xe) E := passes_call tk hW
  refine wpAny_call (codeAny_mono go fun r s4 z => ?_)
  match r, z with
  | .error e, z => exact ps pinsZ σZ HZ s3 e s4 I3 z
  | .ok (.ret w), z => exact I3.after z
  | .ok .next, z => exact z.elim
  | .ok .brk, z => exact z.elim
  | .ok .cont, z => exact z.elim⟩
end
end Fw
namespace Fw
open PySem PySem.Spec PyProof.Rows L2 LamX
section
variable {X : Cx}
/-- a comprehension whose tests lean on the def's own frame -/
theorem lc_maker {pins : List (Addr × Obj)} {s : Shared} {σ : L2.St} {H : Hp} {Q : VK} {el tg it0 : Expr} {ifs : List Expr} {sc : Scope} {own : List (Str × Nat)} {pos pos2 : Pos} {wi : TI} {g : TG} {tt : TT} {te : TE} {Qf : Value → Shared → Prop} (calm : X.calm = true) (nd : X.N.Nodup) (I : Inv X pins σ H s) (hi : PI X tg it0 wi) (ok : BlkOk X.N X.env.scope sc own)
    (tgt : ∀ (s1 : Shared) (H1 : Hp) (C : Addr) (cl : List (Str × Addr)) (fp : List Addr), PG (X.blk s1 H1 sc (compEnvC sc cl C X.env) fp) tg g)
    (tst : ∀ (s1 : Shared) (H1 : Hp) (C : Addr) (cl : List (Str × Addr)) (fp : List Addr), Inv X pins σ H1 s1 → (∀ b ∈ fp, FpOk X pins H1 b) → PTs (X.blk s1 H1 sc (compEnvC sc cl C X.env) fp) ifs tt)
    (elm : ∀ (s1 : Shared) (H1 : Hp) (C : Addr) (cl : List (Str × Addr)) (fp : List Addr), PE (X.blk s1 H1 sc (compEnvC sc cl C X.env) fp) el te) (hs : ∀ x, foldedSetIterable it0 X.env x = pure x) (h : tLc wi g tt te (own.map (·.2)) σ H Q)
    (end_ : ∀ L C s' m H', Inv X pins σ H' s' → Q (.ref L) H' → s'.heap.Ns C m → FpOk X pins H' C → compPost (model X.prog X.w) X.A X.xe none Qf (.ref L) C (.ok .next) s') :
    wpAny (model X.prog X.w) X.A (comprehension (.ListComp el [⟨tg, it0, ifs, 0⟩] sc pos) sc X.env pos2 (newList []) false (eval it0 X.env) none) Qf X.xe s := by
  have cells : ∀ z ∈ sc.names, z.2 = .free → ∃ c, X.env.cells.lookup z.1 = some c := fun z m e => (ok.free z m e).elim (fun k => I.ok.has _ (.inl k)) fun k => I.ok.has _ (.inr k)
  refine wpAny_comprehension_free (use := none) rfl hs (closure_ok cells) ok.kind (fun z m e => by rw [ok.uniq z m, e]) (thn (hi.run pins s σ H _ I h) fun r sA rA => thn rA fun r2 sB rB => ?_)
  obtain ⟨iter, fp, tn, J, HB, rfl, IB, turns, stB, fpB, hq⟩ := rB
  refine wpAny_newObj_type (newEnv_comp ?_) (by show 0 ≤ sizeLine; decide)
  obtain ⟨L, hL⟩ : ∃ L, sB.heap.objs.size = L := ⟨_, rfl⟩
  have fresh : HB L = none := IB.hok.fresh (Nat.le_of_eq hL)
  obtain ⟨W, ⟨n0, start⟩, each⟩ := hq L fresh
  rw [hL]
  obtain ⟨sC, hC⟩ : ∃ sC : Shared, sC = { sB with heap := sB.heap.push { cls := .type "list", data := .seq ([] : List Value).toArray } } := ⟨_, rfl⟩
  obtain ⟨HC, eHC⟩ : ∃ HC : Hp, HC = upd HB L (.lst []) := ⟨_, rfl⟩
  have heapC : sC.heap = sB.heap.push { cls := .type "list", data := .seq ([] : List Value).toArray } := by rw [hC]
  have IC : Inv X pins σ HC sC := by
    rw [hC, eHC]
    refine IB.laid (t' := sB.toks) (fun b o q => Heap.get?_push_of_some _ q) (Nat.le_of_eq hL) ⟨Nat.zero_le _, [], 0, .nil, ?_⟩
    rw [← hL]
    exact Heap.get?_push_size _ rfl
  have small : ∀ b ∈ fp, b < sB.heap.objs.size := fun b m => by
    obtain ⟨o, q, _⟩ := turns.obj _ _ stB b m
    exact Heap.lt_size q
  have fpC : ∀ b ∈ fp, FpOk X pins HC b := fun b m => by
    refine ⟨?_, (fpB b m).2⟩
    rw [eHC, upd_ne (by rw [← hL]; exact Nat.ne_of_lt (small b m))]
    exact (fpB b m).1
  have fpC2 : ∀ b ∈ fp, FpOk X pins HC b ∧ b < sC.heap.objs.size := fun b m => ⟨fpC b m, by rw [heapC, Heap.size_push]; exact Nat.lt_succ_of_lt (small b m)⟩
  have stC : tn 0 sC.heap := turns.keep _ _ _ stB fun b _ o q => by rw [heapC]; exact Heap.get?_push_of_some _ q
  have ID := block_start IC ok nd fpC2
  let clC := cellsFrom (sC.heap.objs.size + 1) sc.names (cloFrom X.env.cells sc.names [])
  have dG := tgt sC HC sC.heap.objs.size clC fp
  have dT := tst sC HC sC.heap.objs.size clC fp IC fpC
  have dE := elm sC HC sC.heap.objs.size clC fp
  rw [← hC]
  show codeAny _ _ (.compStart (.ListComp el [⟨tg, it0, ifs, 0⟩] sc pos) 0 (.ref iter) (.ref L) (compEnvC sc clC sC.heap.objs.size X.env)) (compPost (model X.prog X.w) X.A X.xe none Qf (.ref L) sC.heap.objs.size) { sC with heap := pushCells (sC.heap.push { cls := .type "dict", data := .dict #[] }) sc.names }
  have none0 : ∀ b ∈ fp, HC b = none := fun b m => (fpC b m).1
  obtain ⟨ce, ece⟩ : ∃ ce, compEnvC sc clC sC.heap.objs.size X.env = ce := ⟨_, rfl⟩
  have locs : ce.locals = sC.heap.objs.size := by rw [← ece]; rfl
  have ID : Inv (X.blk sC HC sc ce fp) [] (wipe σ (own.map (·.2))) HC { sC with heap := pushCells (sC.heap.push { cls := .type "dict", data := .dict #[] }) sc.names } := by rw [← ece]; exact ID
  rw [ece] at dG dT dE ⊢
  obtain ⟨sD, eD⟩ : ∃ sD : Shared, sD = { sC with heap := pushCells (sC.heap.push { cls := .type "dict", data := .dict #[] }) sc.names } := ⟨_, rfl⟩
  rw [← eD] at ID ⊢
  have stD : tn 0 sD.heap := turns.keep _ _ _ stC fun b _ o q => by rw [eD]; exact pushCells_keeps _ _ _ _ (Heap.get?_push_of_some _ q)
  have apart : ∀ {σ5 : L2.St} {H5 : Hp} {s5 : Shared}, Inv (X.blk sC HC sc ce fp) [] σ5 H5 s5 → (∀ b ∈ fp, H5 b = none) → ∀ b ∈ fp, FpOk (X.blk sC HC sc ce fp) [] H5 b := fun {σ5 H5 s5} I5 n5 b m =>
    ⟨n5 b m, (I5.ok.exf b m).1, I5.ok.exfs b m, .inl m, fun x c q => (I5.ok.exf b m).2 x c q, fun p z => absurd (show p ∈ ([] : List (Addr × Obj)) ++ [] from z) (by simp)⟩
  have walk : codeAny (model X.prog X.w) X.A (.compLoop (.ListComp el [⟨tg, it0, ifs, 0⟩] sc pos) 0 (.ref iter) (.ref L) ce) (compPost (model X.prog X.w) X.A X.xe none Qf (.ref L) sC.heap.objs.size) sD := by
    rw [eHC] at none0
    refine compLoop_any (fun n s5 => ∃ i H5, Inv (X.blk sC HC sc ce fp) [] (wipe σ (own.map (·.2))) H5 s5 ∧ tn i s5.heap ∧ (∀ b ∈ fp, H5 b = none) ∧ W i n H5) ?_ n0 ⟨0, HC, ID, stD, by rw [eHC]; exact none0, by rw [eHC]; exact start⟩
    rintro n s5 ⟨i, H5, I5, st5, n5, w5⟩
    rcases each i n H5 w5 with ⟨stops, done⟩ | ⟨goes, Nx, down, turn⟩
    · refine thnF (turns.done (X.blk sC HC sc ce fp) rfl rfl rfl calm i [] s5 _ H5 (fun _ _ => False) I5 (apart I5 n5) st5 stops) fun r s6 ⟨er, I6⟩ => ?_
      subst er
      have back : Inv X pins σ H5 s6 := IC.call' (ch := fp) I6.os I6.base I6.hok I6.bare fun b m => ⟨(fpC b m).2.2.2.1, (fpC b m).2.1, (fpC b m).2.2.2.2.1, (fpC b m).2.2.2.2.2⟩
      have away : H5 sC.heap.objs.size = none := by
        have q : H5 ce.locals = none := I6.free
        rwa [locs] at q
      obtain ⟨m, ns, _⟩ := I6.loc
      have ns : s6.heap.Ns ce.locals m := ns
      rw [locs] at ns
      exact end_ L sC.heap.objs.size s6 m H5 back done ns (IC.fpOk (Nat.le_refl _) away)
    · refine thnF (turns.item (X.blk sC HC sc ce fp) rfl rfl rfl calm i [] s5 _ H5 (fun _ _ => False) I5 (apart I5 n5) st5 goes) fun r s6 ⟨u, er, rest⟩ => ?_
      subst er
      refine thnF rest fun _ s7 ⟨x, H7, I7, r7, y7, st7, n7⟩ => ?_
      have J7 := I7.pinned (apart I7 n7) (turns.obj _ _ st7)
      refine thnF (dG.run _ s7 _ H7 x u _ J7 r7 (turn x H7 y7)) fun _ s8 ⟨σ8, H8, I8, wp8, q8⟩ => ?_
      refine thnF (dT.run _ s8 σ8 H8 _ I8 q8) fun b s9 ⟨H9, I9, q9⟩ => ?_
      have next : ∀ {sN : Shared} {HN : Hp}, Inv (X.blk sC HC sc ce fp) ([] ++ pinsAt fp s7.heap) σ8 HN sN → Nx HN → ∃ m, m < n ∧ ∃ i HN, Inv (X.blk sC HC sc ce fp) [] (wipe σ (own.map (·.2))) HN sN ∧ tn i sN.heap ∧ (∀ b ∈ fp, HN b = none) ∧ W i m HN := fun {sN HN} IN nx => by
        obtain ⟨m, lt, wN⟩ := down HN nx
        have still : ∀ b ∈ fp, ∀ o, s7.heap.get? b = some o → sN.heap.get? b = some o ∧ HN b = none := fun b mb o q => by
          have z := IN.pin (b, o) (List.mem_append_right _ (List.mem_append_right _ (mem_pinsAt mb q)))
          exact ⟨z.1, z.2.1⟩
        have len : (wipe σ (own.map (·.2))).length = σ8.length := by rw [← wp8, wipe_length]
        refine ⟨m, lt, i + 1, HN, (IN.unpinned (pins := [])).weak len (fun j v q => ?_), turns.keep _ _ _ st7 fun b mb o q => (still b mb o q).1, fun b mb => ?_, wN⟩
        · rw [← wp8] at q
          exact (wipe_some q).1
        · obtain ⟨o, q, _⟩ := turns.obj _ _ st7 b mb
          exact (still b mb o q).2
      cases b with
      | false =>
        rw [if_neg Bool.false_ne_true] at q9
        simp only [Bool.false_eq_true, if_false]
        exact next I9 q9
      | true =>
        rw [if_pos rfl] at q9
        simp only [if_true]
        refine thnF (dE.run _ s9 σ8 H9 _ I9 q9) fun z sX ⟨yv, HX, IX, rX, acc, eL, room, nx⟩ => ?_
        exact app_ok (X := X.blk sC HC sc ce fp) IX eL room rX fun _ IY => next IY nx
  exact codeAny_compStart_list walk (turns.self X.A 0 _ _ _ stD walk)
/-- its value; what the tests wish may name the state in which the block is entered -/
theorem pe_lcM {el tg it0 : Expr} {ifs : List Expr} {sc : Scope} {own : List (Str × Nat)} {pos : Pos} {wi : TI} {g : TG} {tt : L2.St → TT} {te : TE} (calm : X.calm = true) (nd : X.N.Nodup) (hi : PI X tg it0 wi) (ok : BlkOk X.N X.env.scope sc own)
    (tgt : ∀ (s1 : Shared) (H1 : Hp) (C : Addr) (cl : List (Str × Addr)) (fp : List Addr), PG (X.blk s1 H1 sc (compEnvC sc cl C X.env) fp) tg g)
    (tst : ∀ (pins : List (Addr × Obj)) (σ : L2.St) (s1 : Shared) (H1 : Hp) (C : Addr) (cl : List (Str × Addr)) (fp : List Addr), Inv X pins σ H1 s1 → (∀ b ∈ fp, FpOk X pins H1 b) → PTs (X.blk s1 H1 sc (compEnvC sc cl C X.env) fp) ifs (tt σ))
    (elm : ∀ (s1 : Shared) (H1 : Hp) (C : Addr) (cl : List (Str × Addr)) (fp : List Addr), PE (X.blk s1 H1 sc (compEnvC sc cl C X.env) fp) el te) (hs : ∀ x, foldedSetIterable it0 X.env x = pure x := by intro _; rfl) :
    PE X (.ListComp el [⟨tg, it0, ifs, 0⟩] sc pos) (fun σ H Q => tLc wi g (tt σ) te (own.map (·.2)) σ H Q) := ⟨fun pins s σ H Q I h => by
  rw [eval_ListComp]
  refine lc_maker calm nd I hi ok tgt (tst pins σ) elm hs h fun L C s2 m H2 I2 q ns f => ⟨m, ns, fun h3 sb => ?_⟩
  obtain ⟨f0, f1, f2, f3, f4, f5⟩ := f
  exact ⟨.ref L, H2, I2.turned (t' := s2.toks) (fun b o hb q2 => (sb.2 b hb).trans q2) f0 f1 f3 f4 f5, rfl, q⟩⟩
end
end Fw

/-! A lambda as a value; a def called with a name that holds one. -/
namespace Fw
open PySem PySem.Spec PyProof.Rows L2 LamX
section
variable {X : Cx} {pins : List (Addr × Obj)} {σ : L2.St} {H : Hp} {s : Shared}
theorem fnE_ok {H' : Hp} {h : Heap} {f : Addr} {ob : Obj} (e : h.get? f = some ob) : ObjOk X.prog X.w H' h f (FnE f ob) := ⟨e, ⟨_, e⟩, fun _ _ p st => st _ p⟩
/-- the lambda is made, and its object is tracked from then on -/
theorem lam_lay {P m : Addr} {ar : Arguments} {el : Expr} {sc : Scope} {at_ : Pos} {E Q : Value → Shared → Prop} (I : Inv X pins σ H s) (B : TabB X.base X.mg m P) (em : X.env.code = .ref m) (tab : TabS H P (X.env.qual ++ "<lambda>")) (ed : defaultsOf ar X.env = ([], [])) (fr : ∀ y ∈ sc.names, y.2 = .free → ∃ c, X.env.cells.lookup y.1 = some c)
    (go : ∀ (f d : Addr) (u v : Value) (H1 : Hp) (s1 : Shared), Inv X pins σ (upd H1 f (FnE f (lamOb X ar el sc u d v))) s1 → ExtP P H H1 → TabS H1 P (X.env.qual ++ "<lambda>") → H1 f = none → H1 d = some (CodeO d (X.env.qual ++ "<lambda>")) → Q (.ref f) s1) :
    wpAny (model X.prog X.w) X.A (eval (.Lambda ar el sc at_) X.env) Q E s := by
  obtain ⟨tb, e0, ok3, kn⟩ := tab
  have eP : s.heap.get? P = some { cls := .none, data := .fields tb } := I.hok P _ e0
  have code := B.code.keeps I.bk
  have bm := B.bm.keeps I.bk
  have glob := I.mod.glob.keeps I.bk
  refine PySem.W.kla_eval ed ?_
  cases hit : codeAmong at_ tb.toList with
  | some v =>
    obtain ⟨d, rfl, kd⟩ := kn at_ v hit
    exact PySem.W.kla_makeFunctionHit (mg := X.mg) (c := m) (P := P) (ps := tb) (closure_ok fr) I.ok.glob glob em code eP ok3 hit bm fun ct h1 tk keep le => by
      have g0 : (h1.push (lamOb X ar el sc ((X.mg "__name__").getD .none) d ct)).get? h1.objs.size = some (lamOb X ar el sc ((X.mg "__name__").getD .none) d ct) := Heap.get?_push_size _ rfl
      exact go h1.objs.size d ((X.mg "__name__").getD .none) ct H _ (I.laid (t' := tk) (a := h1.objs.size) (fun b o e => Heap.get?_push_of_some _ (keep b o e)) le (fnE_ok (X := X) g0)) (fun _ _ _ e => e) ⟨tb, e0, ok3, kn⟩ (I.hok.fresh le) kd
  | none =>
    refine PySem.W.kla_makeFunction (mg := X.mg) (c := m) (P := P) (ps := tb) (closure_ok fr) I.ok.glob glob em code eP ok3 hit B.gP bm fun d ct h1 tk ext le lt rec tb2 => ?_
    obtain ⟨d', oc, vs, t, ed', ho, hd, hv⟩ := rec
    cases ed'
    have nd : H d = none := I.hok.fresh le
    have Pd : P ≠ d := ne_of_none e0 nd
    have J := inv_table (q := X.env.qual ++ "<lambda>") (t' := tk) (h' := h1) I e0 (fun b o n e => ext b o n e) tb2 le ⟨oc, vs, t, ho, hd, hv⟩
    have X1 : ExtP P H (upd (upd H P (.tbl (tb ++ #[rawInt at_.line, rawInt at_.col, .ref d]))) d (CodeO d (X.env.qual ++ "<lambda>"))) := fun b o n e => by rw [upd_ne (ne_of_none e nd), upd_ne n]; exact e
    have tl : (tb ++ #[rawInt at_.line, rawInt at_.col, .ref d]).toList = tb.toList ++ [rawInt at_.line, rawInt at_.col, .ref d] := by simp
    have g0 : (h1.push (lamOb X ar el sc ((X.mg "__name__").getD .none) d ct)).get? h1.objs.size = some (lamOb X ar el sc ((X.mg "__name__").getD .none) d ct) := Heap.get?_push_size _ rfl
    refine go h1.objs.size d ((X.mg "__name__").getD .none) ct _ _ (J.laid (t' := tk) (a := h1.objs.size) (fun b o e => Heap.get?_push_of_some _ e) (Nat.le_refl _) (fnE_ok (X := X) g0)) X1 ⟨_, (upd_ne Pd).trans upd_same, by rw [tl]; exact PySem.TriplesOk_snoc _ _ _ _ ok3, fun p v e => ?_⟩ (J.hok.fresh (Nat.le_refl _)) upd_same
    rw [tl] at e
    rcases among_app _ ok3 e with z | z
    · obtain ⟨c0, ec, hc0⟩ := kn p v z
      exact ⟨c0, ec, X1 _ _ (fun w => by rw [w, e0] at hc0; cases hc0) hc0⟩
    · exact ⟨d, z, upd_same⟩
/-- a lambda's value -/
def tLamV (X : Cx) (P : Addr) (ar : Arguments) (el : Expr) (sc : Scope) : TE := fun σ H Q => TabS H P (X.env.qual ++ "<lambda>") ∧ ∀ (f d : Addr) (u v : Value) (H1 : Hp), ExtP P H H1 → TabS H1 P (X.env.qual ++ "<lambda>") → H1 f = none → H1 d = some (CodeO d (X.env.qual ++ "<lambda>")) →
  Q (.ref f) (upd H1 f (FnE f (lamOb X ar el sc u d v)))
theorem pe_lamV {P m : Addr} {ar : Arguments} {el : Expr} {sc : Scope} {at_ : Pos} (B : TabB X.base X.mg m P) (em : X.env.code = .ref m) (L : LamS X.env.scope sc) (ed : defaultsOf ar X.env = ([], [])) : PE X (.Lambda ar el sc at_) (tLamV X P ar el sc) := ⟨fun pins s σ H Q I ⟨tab, h⟩ =>
  lam_lay I B em tab ed (L.has I.ok) fun f d u v H1 s1 I1 x1 t1 fn ed' => ⟨.ref f, _, I1, rfl, h f d u v H1 x1 t1 fn ed'⟩⟩
/-- x(y), y holds a lambda -/
theorem pe_callGiven {x a y q : Str} {g f c' : Addr} {k i : Nat} {fd : FuncData} {st : Stmt} {Ng : List Str} {TT : (XK → Hp → VK → Prop) → Hp → VK → Prop} {tl : XK → Hp → VK → Prop} {p py pos : Pos} (F : Fun X.K x x st g fd) (hg : Gl X x) (hm : X.mg x = some (.ref g)) (hk : PySem.W.keepIn X.K (.ref g) = true) (hb : L2.Binds X.K fd [a] [])
    (S : FnScope Ng [a] (defScope st)) (hG : ∀ cdv, GivesTo X Ng x (defScope st) g cdv (defBody st) a q TT) (hr : Room (k + 1) X.A) (hN : X.N[i]? = some y) (hv : Vis X.env.scope y)
    (act : ∀ (pins : List (Addr × Obj)) (σ : L2.St) (H : Hp) (s : Shared) (cdv : Value), Inv X pins σ H s → Room k (X.A.deeper (envOfC x (defScope st) s.heap.objs.size g cdv)) → ∀ (W : WX) (pn : List (Addr × Obj)) (xe : Value → Shared → Prop) (E : XK) (p1 p2 : Pos), Takes ((cxOf C8.CX0 X.prog X.w X.K X.mg X.base Ng x (defScope st) g cdv X.A X.stack s H C8.E0).tr pn xe) W → (∀ cls d σ' H', E cls d H' → W cls d σ' H') →
      PE ((cxOf C8.CX0 X.prog X.w X.K X.mg X.base Ng x (defScope st) g cdv X.A X.stack s H C8.E0).tr pn xe) (.Call (.Name a p1) [] [] p2) (fun σZ HZ Q => σZ[0]? = some (some (.ref f)) ∧ HZ c' = some (CodeO c' q) ∧ tl E HZ Q))
    (d1 : (x == ("__debug__" : Str)) = false := by decide) (d2 : (y == ("__debug__" : Str)) = false := by decide) (d3 : (y == ("__classdict__" : Str)) = false := by decide) :
    PE X (.Call (.Name x p) [.Name y py] [] pos) (fun σ H Q => σ[i]? = some (some (.ref f)) ∧ H c' = some (CodeO c' q) ∧ TT tl H Q) := ⟨fun pins s σ H Q I ⟨hs, hc, h⟩ => by
  obtain ⟨oc, od, kV, dc, pm, an, cdv, ct, osl, rfl, lk, hcd⟩ := F.ex
  refine wpAny_Call_Name_kw (ld_glob I hg hm ?_ d1)
  refine PySem.W.callWith_K (h₀ := X.base) I.ok.mod.kin hk ?_ (by rfl) (by rfl)
  show wpAny _ _ (spliced ((false, eval (.Name y py) X.env) :: backTo pos (starEach [] X.env))) _ _ s
  refine Calls.spliced_cons (thn ((pe_var (pos := py) (i := i) hN hv d2 d3).run pins s σ H (fun w H3 => w = .ref f ∧ H3 = H) I ⟨.ref f, hs, rfl, rfl⟩) fun r s3 ⟨w, H3, I3, rw3, ew, eH⟩ => ?_)
  subst ew
  rw [eH] at I3
  obtain rfl : r = Value.ref f := rw3
  refine Calls.spliced_nil ⟨I3.kIn, ?_⟩
  refine wpAny_call (codeAny_mono (run_ofS (CX := C8.CX0) (N := Ng) (ps := [a]) (us := [.ref f]) (vs := [.ref f]) (Q := Q) (E := C8.E0) lk hcd S hr I3.env0 (hb s3 [.ref f] I3.kIn rfl) (.cons rfl .nil) rfl fun hr2 => ?_) fun r s2 z => ?_)
  · obtain ⟨t, pt, zt⟩ := hG cdv f c' s3 H Q tl (act pins σ H s3 cdv I3 hr2) hc h
    exact ⟨t, pt.nox, zt⟩
  · match r, z with
    | .error e, z => exact (show False from z).elim
    | .ok (.ret u), z => exact I3.after z
    | .ok .next, z => exact z.elim
    | .ok .brk, z => exact z.elim
    | .ok .cont, z => exact z.elim⟩
end
end Fw

/-! f(..), where f is a name that holds a def of the module. -/
namespace Fw
open PySem PySem.Spec PyProof.Rows L2 LamX
section
variable {X : Cx} {y : Str} {p pos : Pos} {e : Expr} {es : List Expr} {t : TA} {E : L2.St → XK} {CX : CXT} {k i : Nat}
/-- what a name that holds a def is called with -/
def tCallV (P : Program) (w : World) (K : PySem.W.Frag) (mg : Str → Option Value) (base : Heap) (CX : CXT) (k i : Nat) (E : L2.St → XK) (t : TA) : TE := fun σ H Q =>
  ∃ (f : Addr) (fd : FuncData) (ps : List Str) (sp : Sp), FnOk P w K mg base CX k f fd ps sp ∧ PySem.W.keepIn K (.ref f) = true ∧ Binds K fd ps [] ∧ σ[i]? = some (some (.ref f)) ∧ tCallS sp E t σ H Q
theorem pe_callV {P : Program} {w : World} {K : PySem.W.Frag} {mg : Str → Option Value} {base : Heap} (eP : X.prog = P) (ew : X.w = w) (eK : X.K = K) (em : X.mg = mg) (eb : X.base = base) (hr : Room k X.A) (hN : X.N[i]? = some y) (hv : Vis X.env.scope y) (hx : ∀ σ, PassesAt CX X σ (E σ)) (ha : PA X (e :: es) t)
    (h1 : (y == ("__debug__" : Str)) = false := by kernel_rfl) (h2 : (y == ("__classdict__" : Str)) = false := by kernel_rfl) (he : starEach (e :: es) X.env = (false, eval e X.env) :: starEach es X.env := by kernel_rfl) (hpl : (backTo pos (starEach es X.env)).any (·.1) = false := by kernel_rfl) :
    PE X (.Call (.Name y p) (e :: es) [] pos) (tCallV P w K mg base CX k i E t) := ⟨fun pins s σ H Q I ⟨f, fd, ps, sp, F, hk, hb, hs, h⟩ => by
  subst eP ew eK em eb
  refine wpAny_Call_Name_kw (thn ((pe_var (pos := p) (i := i) hN hv h1 h2).run pins s σ H (fun w H3 => w = .ref f ∧ H3 = H) I ⟨.ref f, hs, rfl, rfl⟩) fun r s3 ⟨w, H3, I3, rw3, ew, eH⟩ => ?_)
  subst ew
  rw [eH] at I3
  obtain rfl : r = Value.ref f := rw3
  refine PySem.W.callWith_K (h₀ := X.base) I3.ok.mod.kin hk (thn (ha.run pos pins s3 σ H _ I3 h) fun us s1 ⟨vs, H1, I1, r, q⟩ => ⟨I1.kIn, ?_⟩) he hpl
  exact run_fnS F hr hb (hx σ) I1 r q⟩
end
end Fw

/-! Plain: conditions as nested data. -/
namespace Cd
open PySem
def whI : PyData → Int → Int → Bool
  | .int n, lo, hi => decide (lo ≤ n) && decide (n ≤ hi)
  | _, _, _ => false
theorem whI_of {x : PyData} {lo hi : Int} (h : whI x lo hi = true) : ∃ n : Int, x = .int n ∧ lo ≤ n ∧ n ≤ hi := by
  cases x with
  | int n => simp only [whI, Bool.and_eq_true, decide_eq_true_eq] at h; exact ⟨n, rfl, h⟩
  | _ => cases h
theorem whI_to {n lo hi : Int} (h1 : lo ≤ n) (h2 : n ≤ hi) : whI (.int n) lo hi = true := by simp [whI, h1, h2]
def someParts : List PyData → List PyData
  | [_, .tuple ps] => ps
  | _ => []
def parts : PyData → List PyData
  | .tuple (.str s :: rest) => if s = "some" then someParts rest else if s = "both" ∨ s = "either" then rest else []
  | _ => []
def fewB : PyData → Bool
  | .tuple ps => decide (1 ≤ ps.length) && decide (ps.length ≤ 8)
  | _ => false
def shape3 (s : Str) : List PyData → Bool
  | [a, b] => if s = "least" then whI a 0 3 && whI b 0 9 else if s = "some" then whI a 0 8 && fewB b else decide (s = "both" ∨ s = "either")
  | _ => false
def shaped1 : PyData → Bool
  | .tuple (.str s :: rest) => if s = "yes" then rest.isEmpty else shape3 s rest
  | _ => false
def condB : Nat → PyData → Bool
  | 0, _ => false
  | n + 1, x => shaped1 x && (parts x).all (condB n)
def cnt : Nat → PyData → Nat
  | 0, _ => 1
  | n + 1, x => 1 + ((parts x).map (cnt n)).sum
def lev (L : List Int) (i : Int) : Int := L[i.toNat]?.getD 0
def leastB (L : List Int) : List PyData → Bool
  | [.int a, .int b] => decide (b ≤ lev L a)
  | _ => false
def someB (m : Nat) : List PyData → Bool
  | [.int a, _] => decide (a ≤ (m : Int))
  | _ => false
def holdsF : Nat → PyData → List Int → Bool
  | 0, _, _ => false
  | n + 1, .tuple (.str s :: rest), L => if s = "yes" then true else if s = "least" then leastB L rest else
      if s = "some" then someB ((parts (.tuple (.str s :: rest))).filter fun p => holdsF n p L).length rest else
        if s = "both" then decide (2 ≤ ((parts (.tuple (.str s :: rest))).filter fun p => holdsF n p L).length) else decide (1 ≤ ((parts (.tuple (.str s :: rest))).filter fun p => holdsF n p L).length)
  | _ + 1, _, _ => false
theorem yl : ¬ (("yes" : Str) = "least") := by decide +kernel
theorem ys : ¬ (("yes" : Str) = "some") := by decide +kernel
theorem yb : ¬ (("yes" : Str) = "both") := by decide +kernel
theorem ye : ¬ (("yes" : Str) = "either") := by decide +kernel
theorem ls : ¬ (("least" : Str) = "some") := by decide +kernel
theorem ly : ¬ (("least" : Str) = "yes") := by decide +kernel
theorem lb : ¬ (("least" : Str) = "both") := by decide +kernel
theorem le : ¬ (("least" : Str) = "either") := by decide +kernel
theorem sy : ¬ (("some" : Str) = "yes") := by decide +kernel
theorem sl : ¬ (("some" : Str) = "least") := by decide +kernel
theorem sb : ¬ (("some" : Str) = "both") := by decide +kernel
theorem se : ¬ (("some" : Str) = "either") := by decide +kernel
theorem by_ : ¬ (("both" : Str) = "yes") := by decide +kernel
theorem bl : ¬ (("both" : Str) = "least") := by decide +kernel
theorem bs : ¬ (("both" : Str) = "some") := by decide +kernel
theorem be : ¬ (("both" : Str) = "either") := by decide +kernel
theorem ey : ¬ (("either" : Str) = "yes") := by decide +kernel
theorem el : ¬ (("either" : Str) = "least") := by decide +kernel
theorem es : ¬ (("either" : Str) = "some") := by decide +kernel
theorem eb : ¬ (("either" : Str) = "both") := by decide +kernel
/-- the ways a condition is made -/
inductive Way : PyData → Prop
  | yes : Way (.tuple [.str "yes"])
  | least (a b : Int) : 0 ≤ a → a ≤ 3 → 0 ≤ b → b ≤ 9 → Way (.tuple [.str "least", .int a, .int b])
  | some (a : Int) (ps : List PyData) : 0 ≤ a → a ≤ 8 → 1 ≤ ps.length → ps.length ≤ 8 → Way (.tuple [.str "some", .int a, .tuple ps])
  | both (p q : PyData) : Way (.tuple [.str "both", p, q])
  | either (p q : PyData) : Way (.tuple [.str "either", p, q])
theorem way_of {x : PyData} (h : shaped1 x = true) : Way x := by
  unfold shaped1 at h
  split at h
  · rename_i s rest
    split at h
    · rename_i e
      subst e
      rw [List.isEmpty_iff] at h
      subst h
      exact .yes
    · rename_i hy
      cases rest with
      | nil => cases h
      | cons a rest =>
      cases rest with
      | nil => cases h
      | cons b rest =>
      cases rest with
      | cons c rest => cases h
      | nil =>
        clear hy
        simp only [shape3] at h
        split at h
        · rename_i e
          subst e
          rw [Bool.and_eq_true] at h
          obtain ⟨n, rfl, n1, n2⟩ := whI_of h.1
          obtain ⟨m, rfl, m1, m2⟩ := whI_of h.2
          exact .least n m n1 n2 m1 m2
        · split at h
          · rename_i e
            subst e
            rw [Bool.and_eq_true] at h
            obtain ⟨n, rfl, n1, n2⟩ := whI_of h.1
            cases b with
            | tuple ps =>
              have := h.2
              simp only [fewB, Bool.and_eq_true, decide_eq_true_eq] at this
              exact .some n ps n1 n2 this.1 this.2
            | _ => exact nomatch h.2
          · rw [decide_eq_true_eq] at h
            rcases h with rfl | rfl
            · exact .both a b
            · exact .either a b
  · cases h
theorem Way.shaped {x : PyData} (w : Way x) : shaped1 x = true := by
  cases w with
  | yes => rfl
  | least a b h1 h2 h3 h4 =>
    simp only [shaped1]
    rw [if_neg ly]
    simp only [shape3]
    rw [if_pos trivial, whI_to h1 h2, whI_to h3 h4]
    rfl
  | some a ps h1 h2 h3 h4 =>
    simp only [shaped1]
    rw [if_neg sy]
    simp only [shape3]
    rw [if_neg sl, if_pos trivial, whI_to h1 h2]
    simp [fewB, h3, h4]
  | both p q =>
    simp only [shaped1]
    rw [if_neg by_]
    simp only [shape3]
    rw [if_neg bl, if_neg bs]
    exact decide_eq_true (.inl trivial)
  | either p q =>
    simp only [shaped1]
    rw [if_neg ey]
    simp only [shape3]
    rw [if_neg el, if_neg es]
    exact decide_eq_true (.inr trivial)
theorem parts_yes : parts (.tuple [.str "yes"]) = [] := by
  simp only [parts]
  rw [if_neg ys, if_neg (fun h => h.elim yb ye)]
theorem parts_least {a b : PyData} : parts (.tuple [.str "least", a, b]) = [] := by
  simp only [parts]
  rw [if_neg ls, if_neg (fun h => h.elim lb le)]
theorem parts_some {a : PyData} {ps : List PyData} : parts (.tuple [.str "some", a, .tuple ps]) = ps := by
  simp only [parts]
  rw [if_pos trivial]
  rfl
theorem parts_both {p q : PyData} : parts (.tuple [.str "both", p, q]) = [p, q] := by
  simp only [parts]
  rw [if_neg bs, if_pos (.inl trivial)]
theorem parts_either {p q : PyData} : parts (.tuple [.str "either", p, q]) = [p, q] := by
  simp only [parts]
  rw [if_neg es, if_pos (.inr trivial)]
theorem Way.few {x : PyData} (w : Way x) : (parts x).length ≤ 8 := by
  cases w with
  | yes => rw [parts_yes]; decide
  | least a b => rw [parts_least]; decide
  | some a ps _ _ _ h => rw [parts_some]; exact h
  | both => rw [parts_both]; show 2 ≤ 8; decide
  | either => rw [parts_either]; show 2 ≤ 8; decide
theorem cond_way {n : Nat} {x : PyData} (h : condB n x = true) : Way x := by
  cases n with
  | zero => cases h
  | succ n => exact way_of (Bool.and_eq_true _ _ ▸ h).1
theorem cond_parts {n : Nat} {x : PyData} (h : condB (n + 1) x = true) : ∀ p ∈ parts x, condB n p = true := fun p hp => by
  have h : (shaped1 x && (parts x).all (condB n)) = true := h
  rw [Bool.and_eq_true, List.all_eq_true] at h
  exact h.2 p hp
theorem cond_to {n : Nat} {x : PyData} (w : Way x) (h : ∀ p ∈ parts x, condB n p = true) : condB (n + 1) x = true := by
  show (shaped1 x && (parts x).all (condB n)) = true
  rw [Bool.and_eq_true, List.all_eq_true]
  exact ⟨w.shaped, h⟩
theorem cond_more : ∀ {n m : Nat} {x : PyData}, n ≤ m → condB n x = true → condB m x = true
  | 0, _, _, _, h => nomatch h
  | n + 1, 0, _, l, _ => absurd l (by omega)
  | n + 1, m + 1, x, l, h => cond_to (cond_way h) fun p hp => cond_more (by omega) (cond_parts h p hp)
theorem holds_more : ∀ {n m : Nat} {x : PyData} {L : List Int}, n ≤ m → condB n x = true → holdsF m x L = holdsF n x L
  | 0, _, _, _, _, h => nomatch h
  | n + 1, 0, _, _, l, _ => absurd l (by omega)
  | n + 1, m + 1, x, L, l, h => by
    have e : (parts x).filter (fun p => holdsF m p L) = (parts x).filter fun p => holdsF n p L := List.filter_congr fun p hp => holds_more (by omega) (cond_parts h p hp)
    cases cond_way h <;> simp only [holdsF, e]
theorem cnt_more : ∀ {n m : Nat} {x : PyData}, n ≤ m → condB n x = true → cnt m x = cnt n x
  | 0, _, _, _, h => nomatch h
  | n + 1, 0, _, l, _ => absurd l (by omega)
  | n + 1, m + 1, x, l, h => by
    have e : (parts x).map (cnt m) = (parts x).map (cnt n) := List.map_congr_left fun p hp => cnt_more (by omega) (cond_parts h p hp)
    show 1 + ((parts x).map (cnt m)).sum = 1 + ((parts x).map (cnt n)).sum
    rw [e]
theorem holds_yes {n : Nat} {L : List Int} : holdsF (n + 1) (.tuple [.str "yes"]) L = true := by
  simp only [holdsF]
  rw [if_pos trivial]
theorem holds_least {n : Nat} {L : List Int} {a b : Int} : holdsF (n + 1) (.tuple [.str "least", .int a, .int b]) L = decide (b ≤ lev L a) := by
  simp only [holdsF]
  rw [if_neg ly, if_pos trivial]
  rfl
theorem holds_some {n : Nat} {L : List Int} {a : Int} {ps : List PyData} : holdsF (n + 1) (.tuple [.str "some", .int a, .tuple ps]) L = decide (a ≤ ((ps.filter fun p => holdsF n p L).length : Int)) := by
  simp only [holdsF]
  rw [if_neg sy, if_neg sl, if_pos trivial, parts_some]
  rfl
theorem holds_both {n : Nat} {L : List Int} {p q : PyData} : holdsF (n + 1) (.tuple [.str "both", p, q]) L = decide (2 ≤ ([p, q].filter fun p => holdsF n p L).length) := by
  simp only [holdsF]
  rw [if_neg by_, if_neg bl, if_neg bs, if_pos trivial, parts_both]
theorem holds_either {n : Nat} {L : List Int} {p q : PyData} : holdsF (n + 1) (.tuple [.str "either", p, q]) L = decide (1 ≤ ([p, q].filter fun p => holdsF n p L).length) := by
  simp only [holdsF]
  rw [if_neg ey, if_neg el, if_neg es, if_neg eb, parts_either]
/-- the answer of is_condition -/
def okC (x : PyData) : Bool := condB 6 x && decide (cnt 6 x ≤ 60)
theorem okC_cond {x : PyData} (h : okC x = true) : condB 6 x = true := (Bool.and_eq_true _ _ ▸ h).1
/-- what waits: things with their depths -/
def allOk (w : List (PyData × Nat)) : Bool := w.all fun q => condB (7 - q.2) q.1
def tot (w : List (PyData × Nat)) : Nat := (w.map fun q => cnt (7 - q.2) q.1).sum
theorem cnt_pos {n : Nat} {x : PyData} : 1 ≤ cnt n x := by cases n <;> simp [cnt]
theorem tot_app (a b : List (PyData × Nat)) : tot (a ++ b) = tot a + tot b := by simp [tot]
theorem ok_app (a b : List (PyData × Nat)) : allOk (a ++ b) = (allOk a && allOk b) := by simp [allOk]
theorem tot_parts {x : PyData} {d : Nat} (hd : d ≤ 6) : tot ((parts x).map fun p => (p, d + 1)) + 1 = cnt (7 - d) x := by
  obtain ⟨n, hn⟩ : ∃ n, 7 - d = n + 1 := ⟨6 - d, by omega⟩
  have e : 7 - (d + 1) = n := by omega
  unfold tot
  rw [List.map_map, hn]
  show ((parts x).map fun p => cnt (7 - (d + 1)) p).sum + 1 = 1 + ((parts x).map (cnt n)).sum
  rw [e]
  exact Nat.add_comm _ _
theorem ok_parts {x : PyData} {d : Nat} (hd : d ≤ 6) (hs : shaped1 x = true) : allOk ((parts x).map fun p => (p, d + 1)) = condB (7 - d) x := by
  obtain ⟨n, hn⟩ : ∃ n, 7 - d = n + 1 := ⟨6 - d, by omega⟩
  have e : 7 - (d + 1) = n := by omega
  unfold allOk
  rw [List.all_map, hn]
  show (parts x).all (fun p => condB (7 - (d + 1)) p) = (shaped1 x && (parts x).all (condB n))
  rw [e, hs, Bool.true_and]
end Cd

set_option pp.maxSteps 400
/-! k68, 1: the text. -/
namespace Sc
open PySem L2 Fw Wp
open PyProof.Rows (envOfC)
def top (i : Nat) : Stmt := PySem.Challenge.pw_protestproof_k68_bids_fields_and_formula.main.body.getD i (.Pass ⟨0, 0, 0, 0⟩)
abbrev sis_whole : Stmt := top 11
abbrev nis_whole : List Str := ["thing", "low", "high"]
theorem scis_whole : FnScope ["thing", "low", "high"] ["thing", "low", "high"] (defScope sis_whole) := ⟨rfl, rfl, rfl, by decide +kernel, rfl, by decide +kernel, by decide +kernel⟩
abbrev sis_bid : Stmt := top 12
abbrev nis_bid : List Str := ["thing", "marks", "mark"]
theorem scis_bid : FnScope ["thing", "marks", "mark"] ["thing"] (defScope sis_bid) := ⟨rfl, rfl, rfl, by decide +kernel, rfl, by decide +kernel, by decide +kernel⟩
abbrev sis_field : Stmt := top 13
abbrev nis_field : List Str := ["thing", "bid"]
theorem scis_field : FnScope ["thing", "bid"] ["thing"] (defScope sis_field) := ⟨rfl, rfl, rfl, by decide +kernel, rfl, by decide +kernel, by decide +kernel⟩
abbrev sneed_field : Stmt := top 14
abbrev nneed_field : List Str := ["field"]
theorem scneed_field : FnScope ["field"] ["field"] (defScope sneed_field) := ⟨rfl, rfl, rfl, by decide +kernel, rfl, by decide +kernel, by decide +kernel⟩
abbrev sneed_index : Stmt := top 15
abbrev nneed_index : List Str := ["field", "index"]
theorem scneed_index : FnScope ["field", "index"] ["field", "index"] (defScope sneed_index) := ⟨rfl, rfl, rfl, by decide +kernel, rfl, by decide +kernel, by decide +kernel⟩
abbrev sis_term : Stmt := top 21
abbrev nis_term : List Str := ["thing"]
theorem scis_term : FnScope ["thing"] ["thing"] (defScope sis_term) := ⟨rfl, rfl, rfl, by decide +kernel, rfl, by decide +kernel, by decide +kernel⟩
abbrev sis_formula : Stmt := top 22
abbrev nis_formula : List Str := ["thing", "term"]
theorem scis_formula : FnScope ["thing", "term"] ["thing"] (defScope sis_formula) := ⟨rfl, rfl, rfl, by decide +kernel, rfl, by decide +kernel, by decide +kernel⟩
abbrev sneed_formula : Stmt := top 23
abbrev nneed_formula : List Str := ["formula"]
theorem scneed_formula : FnScope ["formula"] ["formula"] (defScope sneed_formula) := ⟨rfl, rfl, rfl, by decide +kernel, rfl, by decide +kernel, by decide +kernel⟩
abbrev smark_weights : Stmt := top 24
abbrev nmark_weights : List Str := ["formula", "sums", "term"]
theorem scmark_weights : FnScope ["formula", "sums", "term"] ["formula"] (defScope smark_weights) := ⟨rfl, rfl, rfl, by decide +kernel, rfl, by decide +kernel, by decide +kernel⟩
abbrev srelative_weights : Stmt := top 25
abbrev nrelative_weights : List Str := ["formula", "term", "word"]
theorem screlative_weights : FnScope ["formula", "term", "word"] ["formula"] (defScope srelative_weights) := ⟨rfl, rfl, rfl, by decide +kernel, rfl, by decide +kernel, by decide +kernel⟩
abbrev sleast_mark_sum : Stmt := top 47
abbrev nleast_mark_sum : List Str := ["formula"]
theorem scleast_mark_sum : FnScope ["formula"] ["formula"] (defScope sleast_mark_sum) := ⟨rfl, rfl, rfl, by decide +kernel, rfl, by decide +kernel, by decide +kernel⟩
abbrev spasses : Stmt := top 49
abbrev npasses : List Str := ["formula", "low", "spread", "middle"]
theorem scpasses : FnScope ["formula", "low", "spread", "middle"] ["formula"] (defScope spasses) := ⟨rfl, rfl, rfl, by decide +kernel, rfl, by decide +kernel, by decide +kernel⟩
abbrev sturn : Stmt := top 54
abbrev nturn : List Str := ["formula", "weights", "low", "spread", "middle", "least", "cheap", "dear", "third", "marks", "worse", "better", "mark"]
theorem scturn : FnScope ["formula", "weights", "low", "spread", "middle", "least", "cheap", "dear", "third", "marks", "worse", "better", "mark"] ["formula"] (defScope sturn) := ⟨rfl, rfl, rfl, by decide +kernel, rfl, by decide +kernel, by decide +kernel⟩
abbrev sscore : Stmt := top 30
abbrev nscore : List Str := ["formula", "field", "index"]
theorem scscore : FnScope ["formula", "field", "index"] ["formula", "field", "index"] (defScope sscore) := ⟨rfl, rfl, rfl, by decide +kernel, rfl, by decide +kernel, by decide +kernel⟩
abbrev sscores : Stmt := top 31
abbrev nscores : List Str := ["formula", "field"]
theorem scscores : FnScope ["formula", "field"] ["formula", "field"] (defScope sscores) := ⟨rfl, rfl, rfl, by decide +kernel, rfl, by decide +kernel, by decide +kernel⟩
abbrev sranking : Stmt := top 35
abbrev nranking : List Str := ["formula", "field"]
theorem scranking : FnScope ["formula", "field"] ["formula", "field"] (defScope sranking) := ⟨rfl, rfl, rfl, by decide +kernel, rfl, by decide +kernel, by decide +kernel⟩
abbrev sahead : Stmt := top 36
abbrev nahead : List Str := ["formula", "field", "first", "second"]
theorem scahead : FnScope ["formula", "field", "first", "second"] ["formula", "field", "first", "second"] (defScope sahead) := ⟨rfl, rfl, rfl, by decide +kernel, rfl, by decide +kernel, by decide +kernel⟩
abbrev sspoilers : Stmt := top 40
abbrev nspoilers : List Str := ["formula", "field", "order", "found", "struck", "pairs"]
theorem scspoilers : FnScope ["formula", "field", "order", "found", "struck", "pairs"] ["formula", "field"] (defScope sspoilers) := ⟨rfl, rfl, rfl, by decide +kernel, rfl, by decide +kernel, by decide +kernel⟩
abbrev sfirst_spoilers : Stmt := top 41
abbrev nfirst_spoilers : List Str := ["formula", "field", "order", "struck"]
theorem scfirst_spoilers : FnScope ["formula", "field", "order", "struck"] ["formula", "field"] (defScope sfirst_spoilers) := ⟨rfl, rfl, rfl, by decide +kernel, rfl, by decide +kernel, by decide +kernel⟩
abbrev sis_turn : Stmt := top 55
abbrev nis_turn : List Str := ["formula", "thing", "bid", "index"]
theorem scis_turn : FnScope ["formula", "thing", "bid", "index"] ["formula", "thing"] (defScope sis_turn) := ⟨rfl, rfl, rfl, by decide +kernel, rfl, by decide +kernel, by decide +kernel⟩
abbrev s_law_begun : Stmt := top 57
abbrev n_law_begun : List Str := ["script", "large", "cell"]
theorem sc_law_begun : FnScope ["script", "large", "cell"] ["script"] (defScope s_law_begun) := ⟨rfl, rfl, rfl, by decide +kernel, rfl, by decide +kernel, by decide +kernel⟩
abbrev s_law_mixed : Stmt := top 58
abbrev n_law_mixed : List Str := ["draw", "count", "found", "great", "blend", "cell"]
theorem sc_law_mixed : FnScope ["draw", "count", "found", "great", "blend", "cell"] ["draw"] (defScope s_law_mixed) := ⟨rfl, rfl, rfl, by decide +kernel, rfl, by decide +kernel, by decide +kernel⟩
abbrev s_law_take : Stmt := top 59
abbrev n_law_take : List Str := ["draw", "many", "found"]
theorem sc_law_take : FnScope ["draw", "many", "found"] ["draw", "many"] (defScope s_law_take) := ⟨rfl, rfl, rfl, by decide +kernel, rfl, by decide +kernel, by decide +kernel⟩
abbrev s_law_pick : Stmt := top 60
abbrev n_law_pick : List Str := ["draw", "some"]
theorem sc_law_pick : FnScope ["draw", "some"] ["draw", "some"] (defScope s_law_pick) := ⟨rfl, rfl, rfl, by decide +kernel, rfl, by decide +kernel, by decide +kernel⟩
abbrev s_law_caught : Stmt := top 61
abbrev n_law_caught : List Str := ["work", "caught", "error"]
theorem sc_law_caught : FnScope ["work", "caught", "error"] ["work"] (defScope s_law_caught) := ⟨rfl, rfl, rfl, by decide +kernel, rfl, by decide +kernel, by decide +kernel⟩
abbrev s_law_price : Stmt := top 62
abbrev n_law_price : List Str := ["draw"]
theorem sc_law_price : FnScope ["draw"] ["draw"] (defScope s_law_price) := ⟨rfl, rfl, rfl, by decide +kernel, rfl, by decide +kernel, by decide +kernel⟩
abbrev s_law_bid : Stmt := top 63
abbrev n_law_bid : List Str := ["draw", "most", "k"]
theorem sc_law_bid : FnScope ["draw", "most", "k"] ["draw"] (defScope s_law_bid) := ⟨rfl, rfl, rfl, by decide +kernel, rfl, by decide +kernel, by decide +kernel⟩
abbrev s_law_field : Stmt := top 64
abbrev n_law_field : List Str := ["draw", "many", "found", "k"]
theorem sc_law_field : FnScope ["draw", "many", "found", "k"] ["draw", "many"] (defScope s_law_field) := ⟨rfl, rfl, rfl, by decide +kernel, rfl, by decide +kernel, by decide +kernel⟩
abbrev s_law_formula : Stmt := top 65
abbrev n_law_formula : List Str := ["draw", "kinds", "most", "found", "k", "word", "weight"]
theorem sc_law_formula : FnScope ["draw", "kinds", "most", "found", "k", "word", "weight"] ["draw"] (defScope s_law_formula) := ⟨rfl, rfl, rfl, by decide +kernel, rfl, by decide +kernel, by decide +kernel⟩
abbrev s_law_bent_bid : Stmt := top 66
abbrev n_law_bent_bid : List Str := ["draw", "bid", "word", "price", "marks", "at", "odd", "wrong", "good"]
theorem sc_law_bent_bid : FnScope ["draw", "bid", "word", "price", "marks", "at", "odd", "wrong", "good"] ["draw", "bid"] (defScope s_law_bent_bid) := ⟨rfl, rfl, rfl, by decide +kernel, rfl, by decide +kernel, by decide +kernel⟩
abbrev s_law_bent_formula : Stmt := top 67
abbrev n_law_bent_formula : List Str := ["draw", "formula", "wrong", "term", "good"]
theorem sc_law_bent_formula : FnScope ["draw", "formula", "wrong", "term", "good"] ["draw", "formula"] (defScope s_law_bent_formula) := ⟨rfl, rfl, rfl, by decide +kernel, rfl, by decide +kernel, by decide +kernel⟩
abbrev s_law_is_kind : Stmt := top 69
abbrev n_law_is_kind : List Str := ["caught", "kind"]
theorem sc_law_is_kind : FnScope ["caught", "kind"] ["caught", "kind"] (defScope s_law_is_kind) := ⟨rfl, rfl, rfl, by decide +kernel, rfl, by decide +kernel, by decide +kernel⟩
abbrev s_law_refused : Stmt := top 68
abbrev n_law_refused : List Str := ["draw", "formula", "field", "bad", "worse", "work", "odd", "kind", "given", "second"]
theorem sc_law_refused : FnScope ["draw", "formula", "field", "bad", "worse", "work", "odd", "kind", "given", "second"] ["draw", "formula", "field"] (defScope s_law_refused) := ⟨rfl, rfl, rfl, by decide +kernel, rfl, by decide +kernel, by decide +kernel⟩
abbrev slaw : Stmt := top 70
abbrev nlaw : List Str := ["script", "draw", "lap", "bid", "formula", "many", "field", "other", "due", "bent", "sums", "term", "k", "word"]
theorem sclaw : FnScope ["script", "draw", "lap", "bid", "formula", "many", "field", "other", "due", "bent", "sums", "term", "k", "word"] ["script"] (defScope slaw) := ⟨rfl, rfl, rfl, by decide +kernel, rfl, by decide +kernel, by decide +kernel⟩
structure Txt (K : PySem.W.Frag) (mg : Str → Option Value) where
  cTenderError : Addr
  g_TenderError : mg "TenderError" = some (.ref cTenderError)
  x_TenderError : PySem.W.excIn K cTenderError [.type "ValueError", .type "Exception", .type "BaseException", .type "object"] "ValueError.__new__" = true
  k_TenderError : PySem.W.keepIn K (.ref cTenderError) = true
  b_TenderError : PySem.W.subIn K (.ref cTenderError) (.type "BaseException") = some true
  t_TenderError : PySem.W.typeIn K (.ref cTenderError) = some (.type "type")
  e_TenderError : ExcC K cTenderError
  i_TenderError : PySem.W.isClsIn K cTenderError = true
  cBadField : Addr
  g_BadField : mg "BadField" = some (.ref cBadField)
  x_BadField : PySem.W.excIn K cBadField [.type "ValueError", .type "Exception", .type "BaseException", .type "object"] "ValueError.__new__" = true
  k_BadField : PySem.W.keepIn K (.ref cBadField) = true
  b_BadField : PySem.W.subIn K (.ref cBadField) (.type "BaseException") = some true
  t_BadField : PySem.W.typeIn K (.ref cBadField) = some (.type "type")
  e_BadField : ExcC K cBadField
  i_BadField : PySem.W.isClsIn K cBadField = true
  cBadFormula : Addr
  g_BadFormula : mg "BadFormula" = some (.ref cBadFormula)
  x_BadFormula : PySem.W.excIn K cBadFormula [.type "ValueError", .type "Exception", .type "BaseException", .type "object"] "ValueError.__new__" = true
  k_BadFormula : PySem.W.keepIn K (.ref cBadFormula) = true
  b_BadFormula : PySem.W.subIn K (.ref cBadFormula) (.type "BaseException") = some true
  t_BadFormula : PySem.W.typeIn K (.ref cBadFormula) = some (.type "type")
  e_BadFormula : ExcC K cBadFormula
  i_BadFormula : PySem.W.isClsIn K cBadFormula = true
  cBadIndex : Addr
  g_BadIndex : mg "BadIndex" = some (.ref cBadIndex)
  x_BadIndex : PySem.W.excIn K cBadIndex [.type "ValueError", .type "Exception", .type "BaseException", .type "object"] "ValueError.__new__" = true
  k_BadIndex : PySem.W.keepIn K (.ref cBadIndex) = true
  b_BadIndex : PySem.W.subIn K (.ref cBadIndex) (.type "BaseException") = some true
  t_BadIndex : PySem.W.typeIn K (.ref cBadIndex) = some (.type "type")
  e_BadIndex : ExcC K cBadIndex
  i_BadIndex : PySem.W.isClsIn K cBadIndex = true
  su_BadField_TenderError : PySem.W.subIn K (.ref cBadField) (.ref cTenderError) = some true
  su_BadFormula_TenderError : PySem.W.subIn K (.ref cBadFormula) (.ref cTenderError) = some true
  su_BadIndex_TenderError : PySem.W.subIn K (.ref cBadIndex) (.ref cTenderError) = some true
  su_BadField_BadField : PySem.W.subIn K (.ref cBadField) (.ref cBadField) = some true
  su_BadField_BadFormula : PySem.W.subIn K (.ref cBadField) (.ref cBadFormula) = some false
  su_BadField_BadIndex : PySem.W.subIn K (.ref cBadField) (.ref cBadIndex) = some false
  su_BadFormula_BadField : PySem.W.subIn K (.ref cBadFormula) (.ref cBadField) = some false
  su_BadFormula_BadFormula : PySem.W.subIn K (.ref cBadFormula) (.ref cBadFormula) = some true
  su_BadFormula_BadIndex : PySem.W.subIn K (.ref cBadFormula) (.ref cBadIndex) = some false
  su_BadIndex_BadField : PySem.W.subIn K (.ref cBadIndex) (.ref cBadField) = some false
  su_BadIndex_BadFormula : PySem.W.subIn K (.ref cBadIndex) (.ref cBadFormula) = some false
  su_BadIndex_BadIndex : PySem.W.subIn K (.ref cBadIndex) (.ref cBadIndex) = some true
  ais_whole : Addr
  dis_whole : FuncData
  Fis_whole : Fun K "is_whole" "is_whole" sis_whole ais_whole dis_whole
  g_is_whole : mg "is_whole" = some (.ref ais_whole)
  k_is_whole : PySem.W.keepIn K (.ref ais_whole) = true
  b_is_whole : Binds K dis_whole ["thing", "low", "high"] []
  ais_bid : Addr
  dis_bid : FuncData
  Fis_bid : Fun K "is_bid" "is_bid" sis_bid ais_bid dis_bid
  g_is_bid : mg "is_bid" = some (.ref ais_bid)
  k_is_bid : PySem.W.keepIn K (.ref ais_bid) = true
  b_is_bid : Binds K dis_bid ["thing"] []
  bk_is_bid_thing : KBinds K dis_bid ["thing"] ["thing"] g_1 gV_1
  ais_field : Addr
  dis_field : FuncData
  Fis_field : Fun K "is_field" "is_field" sis_field ais_field dis_field
  g_is_field : mg "is_field" = some (.ref ais_field)
  k_is_field : PySem.W.keepIn K (.ref ais_field) = true
  b_is_field : Binds K dis_field ["thing"] []
  bk_is_field_thing : KBinds K dis_field ["thing"] ["thing"] g_1 gV_1
  aneed_field : Addr
  dneed_field : FuncData
  Fneed_field : Fun K "need_field" "need_field" sneed_field aneed_field dneed_field
  g_need_field : mg "need_field" = some (.ref aneed_field)
  k_need_field : PySem.W.keepIn K (.ref aneed_field) = true
  b_need_field : Binds K dneed_field ["field"] []
  aneed_index : Addr
  dneed_index : FuncData
  Fneed_index : Fun K "need_index" "need_index" sneed_index aneed_index dneed_index
  g_need_index : mg "need_index" = some (.ref aneed_index)
  k_need_index : PySem.W.keepIn K (.ref aneed_index) = true
  b_need_index : Binds K dneed_index ["field", "index"] []
  ais_term : Addr
  dis_term : FuncData
  Fis_term : Fun K "is_term" "is_term" sis_term ais_term dis_term
  g_is_term : mg "is_term" = some (.ref ais_term)
  k_is_term : PySem.W.keepIn K (.ref ais_term) = true
  b_is_term : Binds K dis_term ["thing"] []
  ais_formula : Addr
  dis_formula : FuncData
  Fis_formula : Fun K "is_formula" "is_formula" sis_formula ais_formula dis_formula
  g_is_formula : mg "is_formula" = some (.ref ais_formula)
  k_is_formula : PySem.W.keepIn K (.ref ais_formula) = true
  b_is_formula : Binds K dis_formula ["thing"] []
  bk_is_formula_thing : KBinds K dis_formula ["thing"] ["thing"] g_1 gV_1
  aneed_formula : Addr
  dneed_formula : FuncData
  Fneed_formula : Fun K "need_formula" "need_formula" sneed_formula aneed_formula dneed_formula
  g_need_formula : mg "need_formula" = some (.ref aneed_formula)
  k_need_formula : PySem.W.keepIn K (.ref aneed_formula) = true
  b_need_formula : Binds K dneed_formula ["formula"] []
  amark_weights : Addr
  dmark_weights : FuncData
  Fmark_weights : Fun K "mark_weights" "mark_weights" smark_weights amark_weights dmark_weights
  g_mark_weights : mg "mark_weights" = some (.ref amark_weights)
  k_mark_weights : PySem.W.keepIn K (.ref amark_weights) = true
  b_mark_weights : Binds K dmark_weights ["formula"] []
  bk_mark_weights_formula : KBinds K dmark_weights ["formula"] ["formula"] g_1 gV_1
  arelative_weights : Addr
  drelative_weights : FuncData
  Frelative_weights : Fun K "relative_weights" "relative_weights" srelative_weights arelative_weights drelative_weights
  g_relative_weights : mg "relative_weights" = some (.ref arelative_weights)
  k_relative_weights : PySem.W.keepIn K (.ref arelative_weights) = true
  b_relative_weights : Binds K drelative_weights ["formula"] []
  bk_relative_weights_formula : KBinds K drelative_weights ["formula"] ["formula"] g_1 gV_1
  aleast_mark_sum : Addr
  dleast_mark_sum : FuncData
  Fleast_mark_sum : Fun K "least_mark_sum" "least_mark_sum" sleast_mark_sum aleast_mark_sum dleast_mark_sum
  g_least_mark_sum : mg "least_mark_sum" = some (.ref aleast_mark_sum)
  k_least_mark_sum : PySem.W.keepIn K (.ref aleast_mark_sum) = true
  b_least_mark_sum : Binds K dleast_mark_sum ["formula"] []
  apasses : Addr
  dpasses : FuncData
  Fpasses : Fun K "passes" "passes" spasses apasses dpasses
  g_passes : mg "passes" = some (.ref apasses)
  k_passes : PySem.W.keepIn K (.ref apasses) = true
  b_passes : Binds K dpasses ["formula"] []
  aturn : Addr
  dturn : FuncData
  Fturn : Fun K "turn" "turn" sturn aturn dturn
  g_turn : mg "turn" = some (.ref aturn)
  k_turn : PySem.W.keepIn K (.ref aturn) = true
  b_turn : Binds K dturn ["formula"] []
  ascore : Addr
  dscore : FuncData
  Fscore : Fun K "score" "score" sscore ascore dscore
  g_score : mg "score" = some (.ref ascore)
  k_score : PySem.W.keepIn K (.ref ascore) = true
  b_score : Binds K dscore ["formula", "field", "index"] []
  ascores : Addr
  dscores : FuncData
  Fscores : Fun K "scores" "scores" sscores ascores dscores
  g_scores : mg "scores" = some (.ref ascores)
  k_scores : PySem.W.keepIn K (.ref ascores) = true
  b_scores : Binds K dscores ["formula", "field"] []
  aranking : Addr
  dranking : FuncData
  Franking : Fun K "ranking" "ranking" sranking aranking dranking
  g_ranking : mg "ranking" = some (.ref aranking)
  k_ranking : PySem.W.keepIn K (.ref aranking) = true
  b_ranking : Binds K dranking ["formula", "field"] []
  aahead : Addr
  dahead : FuncData
  Fahead : Fun K "ahead" "ahead" sahead aahead dahead
  g_ahead : mg "ahead" = some (.ref aahead)
  k_ahead : PySem.W.keepIn K (.ref aahead) = true
  b_ahead : Binds K dahead ["formula", "field", "first", "second"] []
  aspoilers : Addr
  dspoilers : FuncData
  Fspoilers : Fun K "spoilers" "spoilers" sspoilers aspoilers dspoilers
  g_spoilers : mg "spoilers" = some (.ref aspoilers)
  k_spoilers : PySem.W.keepIn K (.ref aspoilers) = true
  b_spoilers : Binds K dspoilers ["formula", "field"] []
  afirst_spoilers : Addr
  dfirst_spoilers : FuncData
  Ffirst_spoilers : Fun K "first_spoilers" "first_spoilers" sfirst_spoilers afirst_spoilers dfirst_spoilers
  g_first_spoilers : mg "first_spoilers" = some (.ref afirst_spoilers)
  k_first_spoilers : PySem.W.keepIn K (.ref afirst_spoilers) = true
  b_first_spoilers : Binds K dfirst_spoilers ["formula", "field"] []
  ais_turn : Addr
  dis_turn : FuncData
  Fis_turn : Fun K "is_turn" "is_turn" sis_turn ais_turn dis_turn
  g_is_turn : mg "is_turn" = some (.ref ais_turn)
  k_is_turn : PySem.W.keepIn K (.ref ais_turn) = true
  b_is_turn : Binds K dis_turn ["formula", "thing"] []
  a_law_begun : Addr
  d_law_begun : FuncData
  F_law_begun : Fun K "_law_begun" "_law_begun" s_law_begun a_law_begun d_law_begun
  g__law_begun : mg "_law_begun" = some (.ref a_law_begun)
  k__law_begun : PySem.W.keepIn K (.ref a_law_begun) = true
  b__law_begun : Binds K d_law_begun ["script"] []
  a_law_mixed : Addr
  d_law_mixed : FuncData
  F_law_mixed : Fun K "_law_mixed" "_law_mixed" s_law_mixed a_law_mixed d_law_mixed
  g__law_mixed : mg "_law_mixed" = some (.ref a_law_mixed)
  k__law_mixed : PySem.W.keepIn K (.ref a_law_mixed) = true
  b__law_mixed : Binds K d_law_mixed ["draw"] []
  a_law_take : Addr
  d_law_take : FuncData
  F_law_take : Fun K "_law_take" "_law_take" s_law_take a_law_take d_law_take
  g__law_take : mg "_law_take" = some (.ref a_law_take)
  k__law_take : PySem.W.keepIn K (.ref a_law_take) = true
  b__law_take : Binds K d_law_take ["draw", "many"] []
  a_law_pick : Addr
  d_law_pick : FuncData
  F_law_pick : Fun K "_law_pick" "_law_pick" s_law_pick a_law_pick d_law_pick
  g__law_pick : mg "_law_pick" = some (.ref a_law_pick)
  k__law_pick : PySem.W.keepIn K (.ref a_law_pick) = true
  b__law_pick : Binds K d_law_pick ["draw", "some"] []
  a_law_caught : Addr
  d_law_caught : FuncData
  F_law_caught : Fun K "_law_caught" "_law_caught" s_law_caught a_law_caught d_law_caught
  g__law_caught : mg "_law_caught" = some (.ref a_law_caught)
  k__law_caught : PySem.W.keepIn K (.ref a_law_caught) = true
  b__law_caught : Binds K d_law_caught ["work"] []
  a_law_price : Addr
  d_law_price : FuncData
  F_law_price : Fun K "_law_price" "_law_price" s_law_price a_law_price d_law_price
  g__law_price : mg "_law_price" = some (.ref a_law_price)
  k__law_price : PySem.W.keepIn K (.ref a_law_price) = true
  b__law_price : Binds K d_law_price ["draw"] []
  a_law_bid : Addr
  d_law_bid : FuncData
  F_law_bid : Fun K "_law_bid" "_law_bid" s_law_bid a_law_bid d_law_bid
  g__law_bid : mg "_law_bid" = some (.ref a_law_bid)
  k__law_bid : PySem.W.keepIn K (.ref a_law_bid) = true
  b__law_bid : Binds K d_law_bid ["draw"] []
  a_law_field : Addr
  d_law_field : FuncData
  F_law_field : Fun K "_law_field" "_law_field" s_law_field a_law_field d_law_field
  g__law_field : mg "_law_field" = some (.ref a_law_field)
  k__law_field : PySem.W.keepIn K (.ref a_law_field) = true
  b__law_field : Binds K d_law_field ["draw", "many"] []
  a_law_formula : Addr
  d_law_formula : FuncData
  F_law_formula : Fun K "_law_formula" "_law_formula" s_law_formula a_law_formula d_law_formula
  g__law_formula : mg "_law_formula" = some (.ref a_law_formula)
  k__law_formula : PySem.W.keepIn K (.ref a_law_formula) = true
  b__law_formula : Binds K d_law_formula ["draw"] []
  a_law_bent_bid : Addr
  d_law_bent_bid : FuncData
  F_law_bent_bid : Fun K "_law_bent_bid" "_law_bent_bid" s_law_bent_bid a_law_bent_bid d_law_bent_bid
  g__law_bent_bid : mg "_law_bent_bid" = some (.ref a_law_bent_bid)
  k__law_bent_bid : PySem.W.keepIn K (.ref a_law_bent_bid) = true
  b__law_bent_bid : Binds K d_law_bent_bid ["draw", "bid"] []
  a_law_bent_formula : Addr
  d_law_bent_formula : FuncData
  F_law_bent_formula : Fun K "_law_bent_formula" "_law_bent_formula" s_law_bent_formula a_law_bent_formula d_law_bent_formula
  g__law_bent_formula : mg "_law_bent_formula" = some (.ref a_law_bent_formula)
  k__law_bent_formula : PySem.W.keepIn K (.ref a_law_bent_formula) = true
  b__law_bent_formula : Binds K d_law_bent_formula ["draw", "formula"] []
  a_law_is_kind : Addr
  d_law_is_kind : FuncData
  F_law_is_kind : Fun K "_law_is_kind" "_law_is_kind" s_law_is_kind a_law_is_kind d_law_is_kind
  g__law_is_kind : mg "_law_is_kind" = some (.ref a_law_is_kind)
  k__law_is_kind : PySem.W.keepIn K (.ref a_law_is_kind) = true
  b__law_is_kind : Binds K d_law_is_kind ["caught", "kind"] []
  a_law_refused : Addr
  d_law_refused : FuncData
  F_law_refused : Fun K "_law_refused" "_law_refused" s_law_refused a_law_refused d_law_refused
  g__law_refused : mg "_law_refused" = some (.ref a_law_refused)
  k__law_refused : PySem.W.keepIn K (.ref a_law_refused) = true
  b__law_refused : Binds K d_law_refused ["draw", "formula", "field"] []
  alaw : Addr
  dlaw : FuncData
  Flaw : Fun K "law" "law" slaw alaw dlaw
  g_law : mg "law" = some (.ref alaw)
  k_law : PySem.W.keepIn K (.ref alaw) = true
  b_law : Binds K dlaw ["script"] []
  n_abs : mg "abs" = none
  n_all : mg "all" = none
  n_bool : mg "bool" = none
  n_int : mg "int" = none
  n_isinstance : mg "isinstance" = none
  n_len : mg "len" = none
  n_list : mg "list" = none
  n_min : mg "min" = none
  n_range : mg "range" = none
  n_repr : mg "repr" = none
  n_str : mg "str" = none
  n_sum : mg "sum" = none
  n_tuple : mg "tuple" = none
  c_MARK_COUNT : ∃ u, mg "MARK_COUNT" = some u ∧ RelV (.int 4) u
  c_MOST_BIDS : ∃ u, mg "MOST_BIDS" = some u ∧ RelV (.int 130) u
  c_MOST_MARK : ∃ u, mg "MOST_MARK" = some u ∧ RelV (.int 100) u
  c_MOST_PRICE : ∃ u, mg "MOST_PRICE" = some u ∧ RelV (.int 1000000000) u
  c_MOST_TERMS : ∃ u, mg "MOST_TERMS" = some u ∧ RelV (.int 6) u
  c_MOST_WEIGHT : ∃ u, mg "MOST_WEIGHT" = some u ∧ RelV (.int 1000) u
  aRELATIVES : Addr
  c_RELATIVES : ∃ u, mg "RELATIVES" = some u ∧ RelV (.ref aRELATIVES) u
  e_RELATIVES : ∀ H, Dp K H (.ref aRELATIVES) (.tuple [.str "low", .str "range", .str "mean"])
end Sc

/-! l[j] += e, a list of numbers of one's own; data that stands in the module. -/
namespace Wp
open PySem L2 Fw
section
variable {K : PySem.W.Frag} {W : Wd} {r : Addr} {X : WX} {te ti : TE} {fe fi : FE}
theorem jc_augE (i : Nat) (hi : JE K W r ti fi) (h : JE K W r te fe) : JS K W r X (tAugS (tVar i) ti te (rGetL K) (ipI fun i j => i + j) rSetL) (fun env P => ownK env i fun ds => fi env fun z => intK z fun n => ((0 ≤ n ∧ n < (ds.length : Int)) ∧ ds.length ≤ 100000) ∧ fe env fun d => intK d fun y => ∃ x : Int, ds[n.toNat]? = some (.int x) ∧ P.nx (env.set i (.own (ds.set n.toNat (.int (x + y)))))) := fun env P φ h0 hc ms0 σ H D ⟨ms, ρ, os, a⟩ k => by
  obtain ⟨ds, e, φ⟩ := ownK_of φ
  obtain ⟨l, vs, es, _, el, dv, _⟩ := a.write (us := []) e
  refine ⟨_, es, hi _ _ φ _ _ σ H a.lent _ fun s jv H1 ψ g x o => ?_⟩
  obtain ⟨z, rfl, ψ⟩ := ψ
  obtain ⟨n, rfl, hn, ψ⟩ := intK_of ψ
  cases o
  have a1 := a.backL g x
  obtain ⟨l1, vs1, es1, _, el1, dv1, _⟩ := a1.write (us := []) e
  rw [es] at es1
  obtain rfl : l = l1 := by cases es1; rfl
  have en : n = ((n.toNat : Nat) : Int) := by omega
  have lt : n.toNat < ds.length := by omega
  obtain ⟨v0, ev0, ov0⟩ := dpa_get' dv1 (List.getElem?_eq_getElem lt)
  refine ⟨l, vs1, n.toNat, v0, rfl, by rw [← en], SqL.of el1, by have := dpa_len dv1; omega, ev0, ?_⟩
  refine h _ _ ψ _ _ σ H1 a1.lent _ fun s yv H2 ψ2 g2 x2 oy => ?_
  obtain ⟨d, rfl, ψ2⟩ := ψ2
  obtain ⟨y, rfl, x0, ed, ψ3⟩ := intK_of ψ2
  cases oy
  have a2 := a1.backL g2 x2
  have ed2 : ds[n.toNat] = .int x0 := by
    rw [List.getElem?_eq_getElem lt] at ed
    exact Option.some.inj ed
  rw [ed2] at ov0
  cases ov0
  obtain ⟨l2, vs2, es2, _, el2, dv2, put⟩ := a2.write (us := []) e
  rw [es] at es2
  obtain rfl : l = l2 := by cases es2; rfl
  obtain ⟨os', a3⟩ := put (vs2.set n.toNat (.int (x0 + y))) (ds.set n.toNat (.int (x0 + y))) (dpa_set _ (.int _) dv2)
  refine ⟨x0, y, rfl, rfl, l, vs2, n, n.toNat, rfl, rfl, el2, ?_, k.nx _ _ _ ψ3 ⟨_, _, _, a3⟩⟩
  rw [en]
  exact ix_nat (by have := dpa_len dv2; omega)
/-- a constant of the module -/
theorem je_cst {v : V} {d : PyData} (h : ∀ H, Dp K H v d) : JE K W r (tC v) (fun _ Φ => Φ d) := fun env Φ φ ms B σ H g Q q => q (.dat d) v H ⟨d, rfl, φ⟩ g (.refl H) (h _)
end
end Wp

/-! An empty dict among what is judged: isinstance(x, (list, tuple)); calls by keyword. -/
namespace Wp
open PySem L2 Fw
section
variable {K : PySem.W.Frag} {W : Wd} {r : Addr} {od : Option Addr} {n : Nat} {tA : TA} {fA : FA} {E : XK} {G : List (Option PyData) → PyData → Prop}
def ltY : Option PyData → Bool
  | some d => pLT d
  | none => false
theorem je_isLTY (i : Nat) : JE K (WD W od) r (tCB (rIsiT K) (tCons (tVar i) (tCons (tTup (tCons (tC (.ty "list")) (tCons (tC (.ty "tuple")) tNil))) tNil))) (fun env Φ => yK od env i fun a => Φ (.bool (ltY a))) := fun env Φ φ => by
  rcases yK_of φ with ⟨d, e, φ⟩ | ⟨D, e, eD, φ⟩
  · exact je_isLT (K := K) (W := WD W od) (r := r) (je_var i) env Φ (show varK env i _ by unfold varK; rw [e]; exact φ)
  · intro ms B σ H g Q q
    have em : (env.map (low r))[i]? = some (.raw (.ref D)) := by rw [List.getElem?_map, e]; rfl
    obtain ⟨v, ev, ov⟩ := g.env.get em (by intro q; cases q)
    obtain rfl : v = .ref D := ov
    have hD : H D = some (.dK []) := cut_le _ _ (g.c.2 D eD)
    exact ⟨_, ev, by show 2 ≤ sizeLine; decide, fun p hp => ⟨.ref D, p, [.ty "list", .ty "tuple"], .type "dict", [.type "list", .type "tuple"], false, rfl, upd_same, .cons (.ty _) (.cons (.ty _) .nil), .base (.dK (same_put hp _ _ hD)), lt_kit (.dict []),
      q _ _ _ ⟨_, rfl, φ⟩ (g.same (same_put hp)) (.of_same (same_put hp)) (.bl false)⟩⟩
/-- f(k = v), all arguments data -/
theorem je_callKY (ha : JA K W r 1 tA fA) : JE K W r (tCallK (spYG K G) Sc.gV_1 E tNil tA) (fun env Φ => fA env fun ds => oneK ds fun a => ∃ d, G [some a] d ∧ Φ d) := fun env Φ φ ms B σ H g Q q => by
  show tA σ H _
  refine ha env _ φ ms B σ H g _ fun ds vs H1 ψ h1 x1 o1 => ?_
  obtain ⟨_, ψ⟩ := ψ
  obtain ⟨a, rfl, d, ho, ψ⟩ := oneK_of ψ
  cases o1 with
  | cons o1 on =>
    cases on
    exact ⟨ms, none, [some a], d, h1.live, (fun D e => nomatch e), .cons (.dat o1) .nil, ho, fun v H2 s2 o2 => q (.dat d) v H2 ⟨d, rfl, ψ⟩ (h1.same s2) (x1.trans (.of_same s2)) o2⟩
end
end Wp

set_option pp.maxSteps 400
/-! k68, 2: bids and fields judged. -/
namespace Sc
open PySem L2 Fw Wp Cd
open PyProof.Rows (envOfC)
local macro_rules | `(tactic| rfl') => `(tactic| conv => whnf)
def isBid : PyData → Bool
  | .str s => decide (s = "bid")
  | _ => false
def marks4 : PyData → Bool
  | .tuple ms => decide (ms.length = 4)
  | _ => false
def marksAll : PyData → Bool
  | .tuple ms => ms.all fun m => whI m 0 100
  | _ => false
def bid3 : List PyData → Bool
  | [a, b, c] => isBid a && (marks4 c && (whI b 1 1000000000 && marksAll c))
  | _ => false
def bidB : PyData → Bool
  | .tuple ds => bid3 ds
  | _ => false
def fieldB : PyData → Bool
  | .list ds => decide (ds.length ≤ 130) && ds.all bidB
  | .tuple ds => decide (ds.length ≤ 130) && ds.all bidB
  | _ => false
def fieldO : Option PyData → Bool
  | some d => fieldB d
  | none => false
theorem bidB_no {ds : List PyData} (h : ds.length ≠ 3) : bidB (.tuple ds) = false := by
  match ds, h with
  | [], _ => rfl
  | [_], _ => rfl
  | [_, _], _ => rfl
  | [_, _, _], h => exact absurd rfl h
  | _ :: _ :: _ :: _ :: _, _ => rfl
section
variable {P : Program} {w : World} {K : PySem.W.Frag} {mg : Str → Option Value} {base : Heap}
def Gwh (ds : List PyData) (d : PyData) : Prop := ∃ t lo hi, ds = [t, .int lo, .int hi] ∧ d = .bool (whI t lo hi)
theorem okis_whole (T : Txt K mg) : FnOk P w K mg base CX0 1 T.ais_whole T.dis_whole ["thing", "low", "high"] (spP K Gwh) := by
  refine pureW T.Fis_whole scis_whole (by rintro _ _ ⟨_, _, _, rfl, _⟩; rfl) fun cdv A outer s H E hr => ⟨_, _, (pss_one (ps_ret (pe_and (kB (r := rIsi K) call_isi T.n_isinstance (kpa (kvl 0) (kpa (kty (T := "int") T.n_int) pa_nil))) (pe_and (pe_not (kB (r := rIsi K) call_isi T.n_isinstance (kpa (kvl 0) (kpa (kty (T := "bool") T.n_bool) pa_nil)))) (pe_one (pe_chain op_le op_le (kvl 1) (kvl 0) (kvl 2))))))), (jc_ret (je_andV (je_isInt (je_var 0)) (je_andV (je_notV (je_isBool (je_var 0))) (je_chain (je_var 1) (je_var 0) (je_var 2))))), ?_⟩
  rintro _ _ ⟨t, lo, hi, rfl, rfl⟩
  cases t with
  | int n => 
    rfl'
    by_cases q : lo ≤ n
    · rw [decide_eq_true q]
      rfl'
      show PyData.bool _ = .bool (decide (lo ≤ n) && decide (n ≤ hi))
      rw [decide_eq_true q]
      rfl
    · rw [decide_eq_false q]
      show PyData.bool _ = .bool (decide (lo ≤ n) && decide (n ≤ hi))
      rw [decide_eq_false q]
      rfl
  | _ => rfl'; try rfl
def Gib (ds : List PyData) (d : PyData) : Prop := ∃ x, ds = [x] ∧ d = .bool (bidB x)
theorem okis_bid (T : Txt K mg) : FnOk P w K mg base CX0 2 T.ais_bid T.dis_bid ["thing"] (spP K Gib) := by
  refine pureW T.Fis_bid scis_bid (by rintro _ _ ⟨_, rfl, _⟩; rfl) fun cdv A outer s H E hr => ⟨_, _, (pss_cons (ps_if (PW.pt (pw_or (pt_not (kval (kB (r := rIsi K) call_isi T.n_isinstance (kpa (kvl 0) (kpa (kty (T := "tuple") T.n_tuple) pa_nil))))) (pw_or (pt_cmpR op_ne (kB (r := rLenQ K) call_len_seq T.n_len (kpa (kvl 0) pa_nil)) pe_int (nomark _)) (pw_or (pt_not (kval (kB (r := rIsi K) call_isi T.n_isinstance (kpa (pe_ix (r := rIxT K) ix_tup (kvl 0) pe_int (fun _ _ => rfl)) (kpa (kty (T := "str") T.n_str) pa_nil))))) (pw_or1 (pt_cmpR op_ne (pe_ix (r := rIxT K) ix_tup (kvl 0) pe_int (fun _ _ => rfl)) pe_str (nomark _))))))) (pss_one (ps_ret pe_bl)) pss_nil)
      (pss_cons (ksl 1 scis_bid.nd (pe_ix (r := rIxT K) ix_tup (kvl 0) pe_int (fun _ _ => rfl)))
      (pss_cons (ps_if (PW.pt (pw_or (pt_not (kval (kB (r := rIsi K) call_isi T.n_isinstance (kpa (kvl 1) (kpa (kty (T := "tuple") T.n_tuple) pa_nil))))) (pw_or (pt_cmpR op_ne (kB (r := rLenQ K) call_len_seq T.n_len (kpa (kvl 1) pa_nil)) (kgc' T.c_MARK_COUNT) (nomark _)) (pw_or1 (pt_not (kval (kcall (okis_whole T) (hr.mono (by decide)) T.g_is_whole T.k_is_whole T.b_is_whole (kpa (pe_ix (r := rIxT K) ix_tup (kvl 0) pe_int (fun _ _ => rfl)) (kpa pe_int (kpa (kgc' T.c_MOST_PRICE) pa_nil)))))))))) (pss_one (ps_ret pe_bl)) pss_nil)
      (pss_one (ps_ret (kB (r := rAll K) (cr_all rfl) T.n_all (kpa (pe_lc (own := [("mark", 2)]) (g := (gName 2)) (tt := tYes) (by rfl) scis_bid.nd (show PI _ _ _ (iTup K _) from pi_tup (kvl 1)) (blkOk_by (by kernel_rfl)) (fun _ _ _ _ _ => (kgl 2 scis_bid.nd)) (fun _ _ _ _ _ => pts_nil) (fun _ _ _ _ _ => (kcall (okis_whole T) (hr.mono (by decide)) T.g_is_whole T.k_is_whole T.b_is_whole (kpa (kvl 2) (kpa pe_int (kpa (kgc' T.c_MOST_MARK) pa_nil)))))) pa_nil))))))), (jc_seq (jc_if (jt_or (jt_not (jt_B (je_isTup (je_var 0)))) (jt_or (jt_test (je_neS (je_len (ja_cons (je_var 0) ja_nil)) je_int)) (jt_or (jt_not (jt_B (je_isStr (je_ixT (je_var 0) je_int)))) (jt_test (je_neS (je_ixT (je_var 0) je_int) je_str))))) (jc_ret je_bl) jc_next)
      (jc_seq (jc_asg 1 (je_ixT (je_var 0) je_int))
      (jc_seq (jc_if (jt_or (jt_not (jt_B (je_isTup (je_var 1)))) (jt_or (jt_test (je_neS (je_len (ja_cons (je_var 1) ja_nil)) je_int)) (jt_not (jt_B (je_callP (ja_cons (je_ixT (je_var 0) je_int) (ja_cons je_int (ja_cons je_int ja_nil)))))))) (jc_ret je_bl) jc_next)
      (jc_ret (je_all (ja_cons (je_of_jf (jf_lc (ji_tup (je_var 1)) (jg_name 2) jt_yes (je_callP (ja_cons (je_var 2) (ja_cons je_int (ja_cons je_int ja_nil)))) (by decide))) ja_nil)))))), ?_⟩
  rintro _ _ ⟨x, rfl, rfl⟩
  cases x with
  | tuple ds =>
    rfl'
    refine ifK_of (fun q => ?_) fun q => ?_
    · have q : ds.length ≠ 3 := by simp [ng] at q; omega
      rfl'
      rw [bidB_no q]
    · have q : ds.length = 3 := by simp [ng] at q; omega
      match ds, q with
      | [a, b, c], _ =>
      have eb : bidB (.tuple [a, b, c]) = (isBid a && (marks4 c && (whI b 1 1000000000 && marksAll c))) := rfl
      rw [eb]
      cases a with
      | str s =>
        rfl'
        refine ifK_of (fun q3 => ?_) fun q3 => ?_
        · have q4 : ¬ s = "bid" := by simpa [ng] using q3
          rfl'
          show PyData.bool false = .bool (decide (s = "bid") && _)
          rw [decide_eq_false q4]
          rfl
        · have q4 : isBid (.str s) = true := by simpa [ng, isBid] using q3
          rw [q4]
          cases c with
          | tuple ms =>
            rfl'
            refine ifK_of (fun q5 => ?_) fun q5 => ?_
            · have q6 : marks4 (.tuple ms) = false := by simp [ng] at q5; simp [marks4]; omega
              rfl'
              rw [q6]
              rfl
            · have q6 : ms.length = 4 := by simp [ng] at q5; omega
              have q7 : marks4 (.tuple ms) = true := decide_eq_true q6
              rw [q7]
              rfl'
              refine ⟨_, ⟨b, 1, 1000000000, rfl, rfl⟩, ?_⟩
              cases hb : whI b 1 1000000000 with
              | false => rfl'; try rfl
              | true =>
                rfl'
                refine ⟨by omega, lcW_map0 (f := fun y => .bool (whI y 0 100)) (fun y _ A C hA => ⟨_, ⟨y, 0, 100, rfl, rfl⟩, hA⟩) ⟨ms.map fun y => whI y 0 100, by rw [List.map_map]; rfl, ?_⟩⟩
                rw [List.all_map]
                rfl
          | _ => rfl'; try rfl
      | _ => rfl'; try rfl
  | _ => rfl'; try rfl
def Gif (as : List (Option PyData)) (d : PyData) : Prop := ∃ o, as = [o] ∧ d = .bool (fieldO o)
theorem okis_field (T : Txt K mg) : FnOk P w K mg base CX0 3 T.ais_field T.dis_field ["thing"] (spYG K Gif) := by
  refine pureYG T.Fis_field scis_field (by rintro _ _ ⟨_, rfl, _⟩; rfl) fun cdv A outer s H E hr => ⟨_, (pss_one (ps_ret (pe_and (kB (r := rIsiT K) call_isiT T.n_isinstance (kpa (kvl 0) (kpa (pe_tup (kpa (kty (T := "list") T.n_list) (kpa (kty (T := "tuple") T.n_tuple) pa_nil))) pa_nil))) (pe_and (pe_cmpR op_le (kB (r := rLenQ K) call_len_seq T.n_len (kpa (kvl 0) pa_nil)) (kgc' T.c_MOST_BIDS) (nomark _)) (pe_one (kB (r := rAll K) (cr_all rfl) T.n_all (kpa (pe_lc (own := [("bid", 1)]) (g := (gName 1)) (tt := tYes) (by rfl) scis_field.nd (show PI _ _ _ (iSeq K _) from pi_seq (kvl 0)) (blkOk_by (by kernel_rfl)) (fun _ _ _ _ _ => (kgl 1 scis_field.nd)) (fun _ _ _ _ _ => pts_nil) (fun _ _ _ _ _ => (kcall (okis_bid T) (hr.mono (by decide)) T.g_is_bid T.k_is_bid T.b_is_bid (kpa (kvl 1) pa_nil)))) pa_nil))))))), fun od => ⟨_, (jc_ret (je_andV (je_isLTY 0) (je_andV (je_le (je_len (ja_cons (je_var 0) ja_nil)) je_int) (je_all (ja_cons (je_of_jf (jf_lc (ji_seq (je_var 0)) (jg_name 1) jt_yes (je_callP (ja_cons (je_var 1) ja_nil)) (by decide))) ja_nil))))), ?_⟩⟩
  rintro _ _ ⟨o, rfl, rfl⟩ hn
  cases o with
  | none =>
    obtain ⟨D, rfl⟩ := hn (by simp)
    rfl'
    exact ⟨rfl, rfl⟩
  | some x =>
    cases x with
    | list ds =>
      rfl'
      cases q : decide ((ds.length : Int) ≤ 130) with
      | false =>
        have q2 : ¬ ds.length ≤ 130 := by have := of_decide_eq_false q; omega
        show PyData.bool false = .bool (decide (ds.length ≤ 130) && _)
        rw [decide_eq_false q2]
        rfl
      | true =>
        have q2 : ds.length ≤ 130 := by have := of_decide_eq_true q; omega
        refine ⟨by omega, lcW_map0 (f := fun y => .bool (bidB y)) (fun y _ A C hA => ⟨_, ⟨y, rfl, rfl⟩, hA⟩) ⟨ds.map bidB, by rw [List.map_map]; rfl, ?_⟩⟩
        show PyData.bool _ = .bool (decide (ds.length ≤ 130) && _)
        rw [decide_eq_true q2, List.all_map]
        rfl
    | tuple ds =>
      rfl'
      cases q : decide ((ds.length : Int) ≤ 130) with
      | false =>
        have q2 : ¬ ds.length ≤ 130 := by have := of_decide_eq_false q; omega
        show PyData.bool false = .bool (decide (ds.length ≤ 130) && _)
        rw [decide_eq_false q2]
        rfl
      | true =>
        have q2 : ds.length ≤ 130 := by have := of_decide_eq_true q; omega
        refine ⟨by omega, lcW_map0 (f := fun y => .bool (bidB y)) (fun y _ A C hA => ⟨_, ⟨y, rfl, rfl⟩, hA⟩) ⟨ds.map bidB, by rw [List.map_map]; rfl, ?_⟩⟩
        show PyData.bool _ = .bool (decide (ds.length ≤ 130) && _)
        rw [decide_eq_true q2, List.all_map]
        rfl
    | _ => rfl'; try rfl
def Onf (T : Txt K mg) (as : List (Option PyData)) (o : Out) : Prop := ∃ x, as = [x] ∧ o = if fieldO x = true then .ok .none else .no T.cBadField
theorem okneed_field (T : Txt K mg) : FnOk P w K mg base (L2.CX P w) 4 T.aneed_field T.dneed_field ["field"] (spY K (Onf T)) := by
  refine raiseY T.Fneed_field scneed_field (by rintro _ _ ⟨_, rfl, _⟩; rfl) fun cdv A outer s H E hr => ⟨_, (pss_one (ps_if (pt_not (kval (kcall (okis_field T) (hr.mono (by decide)) T.g_is_field T.k_is_field T.b_is_field (kpa (kvl 0) pa_nil)))) (pss_one (ps_raise rfl (takes_of rfl rfl rfl rfl) (pmk_own PySem.F.excBase_ValueError T.x_BadField T.g_BadField T.k_BadField (raises_own T.b_BadField T.t_BadField) (by exact rfl)))) pss_nil)), fun od => ⟨_, (jc_if (jt_not (jt_B (je_callYG (jy_var 0 jy_nil)))) (jc_raise (C := T.cBadField) (fun _ _ _ h => h)) jc_next), ?_⟩⟩
  rintro _ _ ⟨o, rfl, rfl⟩ hn
  cases o with
  | none =>
    obtain ⟨D, rfl⟩ := hn (by simp)
    rfl'
    refine ⟨rfl, _, ⟨none, rfl, rfl⟩, ?_⟩
    rfl'
    try rfl
  | some x =>
    rfl'
    refine ⟨_, ⟨some x, rfl, rfl⟩, ?_⟩
    cases q : fieldO (some x) with
    | true => rfl'; try rfl
    | false => rfl'; try rfl
def Oni (T : Txt K mg) (ds : List PyData) (o : Out) : Prop := ∃ (x : PyData) (xs : List PyData) (i : PyData), (x = .list xs ∨ x = .tuple xs) ∧ xs.length ≤ 100000 ∧ ds = [x, i] ∧ o = if whI i 0 ((xs.length : Int) - 1) = true then .ok .none else .no T.cBadIndex
theorem okneed_index (T : Txt K mg) : FnOk P w K mg base (L2.CX P w) 2 T.aneed_index T.dneed_index ["field", "index"] (spX K (Oni T)) := by
  refine raiseW T.Fneed_index scneed_index (by rintro _ _ ⟨_, _, _, _, _, rfl, _⟩; rfl) fun cdv A outer s H E hr => ⟨_, _, (pss_one (ps_if (pt_not (kval (kcall (okis_whole T) (hr.mono (by decide)) T.g_is_whole T.k_is_whole T.b_is_whole (kpa (kvl 1) (kpa pe_int (kpa (pe_op op_sub (kB (r := rLenQ K) call_len_seq T.n_len (kpa (kvl 0) pa_nil)) pe_int) pa_nil)))))) (pss_one (ps_raise rfl (takes_of rfl rfl rfl rfl) (pmk_own PySem.F.excBase_ValueError T.x_BadIndex T.g_BadIndex T.k_BadIndex (raises_own T.b_BadIndex T.t_BadIndex) (by exact rfl)))) pss_nil)), (jc_if (jt_not (jt_B (je_callP (ja_cons (je_var 1) (ja_cons je_int (ja_cons (je_sub (je_len (ja_cons (je_var 0) ja_nil)) je_int) ja_nil)))))) (jc_raise (C := T.cBadIndex) (fun _ _ _ h => h)) jc_next), ?_⟩
  rintro _ o ⟨x, xs, i, hx, hl, rfl, rfl⟩
  rcases hx with rfl | rfl
  all_goals
    rfl'
    refine ⟨_, ⟨i, 0, _, rfl, rfl⟩, ?_⟩
    cases q : whI i 0 ((xs.length : Int) - 1) with
    | true => rfl'; try rfl
    | false => rfl'; try rfl
end
end Sc

set_option pp.maxSteps 400
/-! k68, 3: formulas judged; their weights. -/
namespace Sc
open PySem L2 Fw Wp Cd
open PyProof.Rows (envOfC)
local macro_rules | `(tactic| rfl') => `(tactic| conv => whnf)
structure Bid where
  price : Int
  marks : List Int
def Bid.d (b : Bid) : PyData := .tuple [.str "bid", .int b.price, .tuple (b.marks.map .int)]
structure Bid.Ok (b : Bid) : Prop where
  lo : 1 ≤ b.price
  hi : b.price ≤ 1000000000
  len : b.marks.length = 4
  mkb : ∀ m ∈ b.marks, 0 ≤ m ∧ m ≤ 100
inductive Rel where
  | low | range | mean
deriving DecidableEq
def Rel.s : Rel → Str
  | .low => "low" | .range => "range" | .mean => "mean"
inductive Tm where
  | mark (k : Nat) (w : Int)
  | rel (r : Rel) (w : Int)
def Tm.d : Tm → PyData
  | .mark k w => .tuple [.str "mark", .int (k : Int), .int w]
  | .rel r w => .tuple [.str r.s, .int w]
def Tm.w : Tm → Int
  | .mark _ w => w
  | .rel _ w => w
def Tm.Ok : Tm → Prop
  | .mark k w => k < 4 ∧ 1 ≤ w ∧ w ≤ 1000
  | .rel _ w => 1 ≤ w ∧ w ≤ 1000
def formD (f : List Tm) : PyData := .tuple (f.map Tm.d)
def FormOk (f : List Tm) : Prop := f.length ≤ 6 ∧ ∀ t ∈ f, t.Ok
def rels : List Str := ["low", "range", "mean"]
def relS (s : Str) : Bool := decide (s ∈ rels)
def mk2 : List PyData → Bool
  | [b, c] => whI b 0 3 && whI c 1 1000
  | _ => false
def rl1 : List PyData → Bool
  | [b] => whI b 1 1000
  | _ => false
def termL : List PyData → Bool
  | .str s :: b :: rest => if s = "mark" then mk2 (b :: rest) else relS s && rl1 (b :: rest)
  | _ => false
def termB : PyData → Bool
  | .tuple ds => termL ds
  | _ => false
def formB : PyData → Bool
  | .tuple ds => decide (ds.length ≤ 6) && ds.all termB
  | _ => false
theorem rel_in (r : Rel) : relS r.s = true := by cases r <;> decide +kernel
theorem rel_nm (r : Rel) : ¬ r.s = "mark" := by cases r <;> decide +kernel
theorem term_ok {t : Tm} (h : t.Ok) : termB t.d = true := by
  cases t with
  | mark k w =>
    obtain ⟨h1, h2, h3⟩ := h
    show (if (("mark" : Str) = "mark") then mk2 [.int (k : Int), .int w] else relS "mark" && rl1 [.int (k : Int), .int w]) = true
    rw [if_pos rfl]
    show (whI (.int (k : Int)) 0 3 && whI (.int w) 1 1000) = true
    rw [whI_to (by omega) (by omega), whI_to h2 h3]
    rfl
  | rel r w =>
    obtain ⟨h2, h3⟩ := h
    show (if (r.s = "mark") then mk2 [.int w] else relS r.s && rl1 [.int w]) = true
    rw [if_neg (rel_nm r), rel_in]
    exact whI_to h2 h3
theorem form_ok {f : List Tm} (h : FormOk f) : formB (formD f) = true := by
  show (decide ((f.map Tm.d).length ≤ 6) && (f.map Tm.d).all termB) = true
  rw [List.length_map, decide_eq_true h.1, Bool.true_and, List.all_eq_true]
  intro d hd
  obtain ⟨t, ht, rfl⟩ := List.mem_map.mp hd
  exact term_ok (h.2 t ht)
section
variable {P : Program} {w : World} {K : PySem.W.Frag} {mg : Str → Option Value} {base : Heap}
def Git (ds : List PyData) (d : PyData) : Prop := ∃ x, ds = [x] ∧ d = .bool (termB x)
theorem okis_term (T : Txt K mg) : FnOk P w K mg base CX0 2 T.ais_term T.dis_term ["thing"] (spP K Git) := by
  refine pureW T.Fis_term scis_term (by rintro _ _ ⟨_, rfl, _⟩; rfl) fun cdv A outer s H E hr => ⟨_, _, (pss_cons (ps_if (PW.pt (pw_or (pt_not (kval (kB (r := rIsi K) call_isi T.n_isinstance (kpa (kvl 0) (kpa (kty (T := "tuple") T.n_tuple) pa_nil))))) (pw_or (pt_cmpR op_lt (kB (r := rLenQ K) call_len_seq T.n_len (kpa (kvl 0) pa_nil)) pe_int (nomark _)) (pw_or1 (pt_not (kval (kB (r := rIsi K) call_isi T.n_isinstance (kpa (pe_ix (r := rIxT K) ix_tup (kvl 0) pe_int (fun _ _ => rfl)) (kpa (kty (T := "str") T.n_str) pa_nil))))))))) (pss_one (ps_ret pe_bl)) pss_nil)
      (pss_cons (ps_if (pt_cmpR op_eq (pe_ix (r := rIxT K) ix_tup (kvl 0) pe_int (fun _ _ => rfl)) pe_str (nomark _)) (pss_one (ps_ret (pe_and (pe_cmpR op_eq (kB (r := rLenQ K) call_len_seq T.n_len (kpa (kvl 0) pa_nil)) pe_int (nomark _)) (pe_and (kcall (okis_whole T) (hr.mono (by decide)) T.g_is_whole T.k_is_whole T.b_is_whole (kpa (pe_ix (r := rIxT K) ix_tup (kvl 0) pe_int (fun _ _ => rfl)) (kpa pe_int (kpa (pe_op op_sub (kgc' T.c_MARK_COUNT) pe_int) pa_nil)))) (pe_one (kcall (okis_whole T) (hr.mono (by decide)) T.g_is_whole T.k_is_whole T.b_is_whole (kpa (pe_ix (r := rIxT K) ix_tup (kvl 0) pe_int (fun _ _ => rfl)) (kpa pe_int (kpa (kgc' T.c_MOST_WEIGHT) pa_nil))))))))) pss_nil)
      (pss_one (ps_ret (pe_and (pe_cmpR (r := rIn K false) op_in_seq (pe_ix (r := rIxT K) ix_tup (kvl 0) pe_int (fun _ _ => rfl)) (kgc' T.c_RELATIVES) (by rfl)) (pe_and (pe_cmpR op_eq (kB (r := rLenQ K) call_len_seq T.n_len (kpa (kvl 0) pa_nil)) pe_int (nomark _)) (pe_one (kcall (okis_whole T) (hr.mono (by decide)) T.g_is_whole T.k_is_whole T.b_is_whole (kpa (pe_ix (r := rIxT K) ix_tup (kvl 0) pe_int (fun _ _ => rfl)) (kpa pe_int (kpa (kgc' T.c_MOST_WEIGHT) pa_nil))))))))))), (jc_seq (jc_if (jt_or (jt_not (jt_B (je_isTup (je_var 0)))) (jt_or (jt_test (je_lt (je_len (ja_cons (je_var 0) ja_nil)) je_int)) (jt_not (jt_B (je_isStr (je_ixT (je_var 0) je_int)))))) (jc_ret je_bl) jc_next)
      (jc_seq (jc_if (jt_test (je_eqS (je_ixT (je_var 0) je_int) je_str)) (jc_ret (je_andV (je_eqS (je_len (ja_cons (je_var 0) ja_nil)) je_int) (je_andV (je_callP (ja_cons (je_ixT (je_var 0) je_int) (ja_cons je_int (ja_cons (je_sub je_int je_int) ja_nil)))) (je_callP (ja_cons (je_ixT (je_var 0) je_int) (ja_cons je_int (ja_cons je_int ja_nil))))))) jc_next)
      (jc_ret (je_andV (je_inS (je_ixT (je_var 0) je_int) (je_cst T.e_RELATIVES)) (je_andV (je_eqS (je_len (ja_cons (je_var 0) ja_nil)) je_int) (je_callP (ja_cons (je_ixT (je_var 0) je_int) (ja_cons je_int (ja_cons je_int ja_nil))))))))), ?_⟩
  rintro _ _ ⟨x, rfl, rfl⟩
  cases x with
  | tuple ds =>
    match ds with
    | [] => rfl'; try rfl
    | [a] => rfl'; cases a <;> rfl
    | a :: b :: rest =>
      cases a with
      | str s =>
        match rest with
        | [] =>
          have et : termB (.tuple [.str s, b]) = if s = "mark" then mk2 [b] else relS s && rl1 [b] := rfl
          rw [et]
          rfl'
          refine ifK_of (fun q => ?_) fun q => ?_
          · have q : s = "mark" := by simpa [ng] using q
            rw [if_pos q]
            rfl'
            try rfl
          · have q : ¬ s = "mark" := by simpa [ng] using q
            rw [if_neg q]
            rfl'
            refine ⟨rels, .inr rfl, ?_⟩
            show ifK (relS s) _ _
            cases relS s with
            | false => rfl'; try rfl
            | true =>
              rfl'
              exact ⟨_, ⟨b, 1, 1000, rfl, rfl⟩, rfl⟩
        | [c] =>
          have et : termB (.tuple [.str s, b, c]) = if s = "mark" then mk2 [b, c] else relS s && rl1 [b, c] := rfl
          rw [et]
          rfl'
          refine ifK_of (fun q => ?_) fun q => ?_
          · have q : s = "mark" := by simpa [ng] using q
            have em : mk2 [b, c] = (whI b 0 3 && whI c 1 1000) := rfl
            rw [if_pos q, em]
            rfl'
            refine ⟨_, ⟨b, 0, 3, rfl, rfl⟩, ?_⟩
            show ifK (whI b 0 3) _ (PyData.bool false = .bool (whI b 0 3 && whI c 1 1000))
            cases whI b 0 3 with
            | false => rfl'; try rfl
            | true =>
              rfl'
              exact ⟨_, ⟨c, 1, 1000, rfl, rfl⟩, rfl⟩
          · have q : ¬ s = "mark" := by simpa [ng] using q
            rw [if_neg q]
            rfl'
            refine ⟨rels, .inr rfl, ?_⟩
            show ifK (relS s) _ (PyData.bool false = .bool (relS s && rl1 [b, c]))
            cases relS s with
            | false => rfl'; try rfl
            | true => rfl'; try rfl
        | c :: d :: rest =>
          have et : termB (.tuple (.str s :: b :: c :: d :: rest)) = if s = "mark" then mk2 (b :: c :: d :: rest) else relS s && rl1 (b :: c :: d :: rest) := rfl
          have a0 : atI (PyData.str s :: b :: c :: d :: rest) 0 = some (.str s) := atI_nat (j := 0) rfl
          rw [et]
          rfl'
          refine atK_of a0 ?_
          rfl'
          refine atK_of a0 ?_
          rfl'
          refine ifK_of (fun q => ?_) fun q => ?_
          · have q : s = "mark" := by simpa [ng] using q
            rw [if_pos q]
            rfl'
            try rfl
          · have q : ¬ s = "mark" := by simpa [ng] using q
            rw [if_neg q]
            rfl'
            refine atK_of a0 ?_
            rfl'
            refine ⟨rels, .inr rfl, ?_⟩
            show ifK (relS s) _ (PyData.bool false = .bool (relS s && rl1 (b :: c :: d :: rest)))
            cases relS s with
            | false => rfl'; try rfl
            | true =>
              rfl'
              try rfl
      | _ =>
        have a0 : ∀ a : PyData, atI (a :: b :: rest) 0 = some a := fun a => atI_nat (j := 0) rfl
        rfl'
        refine atK_of (a0 _) ?_
        rfl'
        try rfl
  | _ => rfl'; try rfl
end
end Sc

set_option pp.maxSteps 400
/-! k68, 4: formulas judged; their weights. -/
namespace Sc
open PySem L2 Fw Wp Cd
open PyProof.Rows (envOfC)
local macro_rules | `(tactic| rfl') => `(tactic| conv => whnf)
def mwStep (s : List Int) : Tm → List Int
  | .mark k x => s.set k (s[k]?.getD 0 + x)
  | .rel _ _ => s
def mw (f : List Tm) : List Int := f.foldl mwStep [0, 0, 0, 0]
theorem mwStep_len (s : List Int) (t : Tm) : (mwStep s t).length = s.length := by
  cases t with
  | mark k x => exact List.length_set
  | rel r x => rfl
theorem mwFold_len : ∀ (f : List Tm) (s : List Int), (f.foldl mwStep s).length = s.length
  | [], s => rfl
  | t :: f, s => by rw [List.foldl_cons, mwFold_len f, mwStep_len]
theorem mw_len (f : List Tm) : (mw f).length = 4 := mwFold_len f _
theorem mw_snoc (f : List Tm) (t : Tm) : mw (f ++ [t]) = mwStep (mw f) t := by
  unfold mw
  rw [List.foldl_append]
  rfl
def isRel (r : Rel) : Tm → Bool
  | .rel q _ => decide (q = r)
  | .mark _ _ => false
def rs (r : Rel) (f : List Tm) : Int := ((f.filter (isRel r)).map Tm.w).sum
theorem mark_s (r : Rel) : decide (("mark" : Str) = r.s) = false := by cases r <;> decide +kernel
theorem rel_s (q r : Rel) : decide (q.s = r.s) = decide (q = r) := by cases q <;> cases r <;> decide +kernel
section
variable {P : Program} {w : World} {K : PySem.W.Frag} {mg : Str → Option Value} {base : Heap}
def Gfo (ds : List PyData) (d : PyData) : Prop := ∃ x, ds = [x] ∧ d = .bool (formB x)
theorem okis_formula (T : Txt K mg) : FnOk P w K mg base CX0 3 T.ais_formula T.dis_formula ["thing"] (spP K Gfo) := by
  refine pureW T.Fis_formula scis_formula (by rintro _ _ ⟨_, rfl, _⟩; rfl) fun cdv A outer s H E hr => ⟨_, _, (pss_one (ps_ret (pe_and (kB (r := rIsi K) call_isi T.n_isinstance (kpa (kvl 0) (kpa (kty (T := "tuple") T.n_tuple) pa_nil))) (pe_and (pe_cmpR op_le (kB (r := rLenQ K) call_len_seq T.n_len (kpa (kvl 0) pa_nil)) (kgc' T.c_MOST_TERMS) (nomark _)) (pe_one (kB (r := rAll K) (cr_all rfl) T.n_all (kpa (pe_lc (own := [("term", 1)]) (g := (gName 1)) (tt := tYes) (by rfl) scis_formula.nd (show PI _ _ _ (iTup K _) from pi_tup (kvl 0)) (blkOk_by (by kernel_rfl)) (fun _ _ _ _ _ => (kgl 1 scis_formula.nd)) (fun _ _ _ _ _ => pts_nil) (fun _ _ _ _ _ => (kcall (okis_term T) (hr.mono (by decide)) T.g_is_term T.k_is_term T.b_is_term (kpa (kvl 1) pa_nil)))) pa_nil))))))), (jc_ret (je_andV (je_isTup (je_var 0)) (je_andV (je_le (je_len (ja_cons (je_var 0) ja_nil)) je_int) (je_all (ja_cons (je_of_jf (jf_lc (ji_tup (je_var 0)) (jg_name 1) jt_yes (je_callP (ja_cons (je_var 1) ja_nil)) (by decide))) ja_nil))))), ?_⟩
  rintro _ _ ⟨x, rfl, rfl⟩
  cases x with
  | tuple ds =>
    rfl'
    cases q : decide ((ds.length : Int) ≤ 6) with
    | false =>
      have q2 : ¬ ds.length ≤ 6 := by have := of_decide_eq_false q; omega
      show PyData.bool false = .bool (decide (ds.length ≤ 6) && _)
      rw [decide_eq_false q2]
      rfl
    | true =>
      have q2 : ds.length ≤ 6 := by have := of_decide_eq_true q; omega
      refine ⟨by omega, lcW_map0 (f := fun y => .bool (termB y)) (fun y _ A C hA => ⟨_, ⟨y, rfl, rfl⟩, hA⟩) ⟨ds.map termB, by rw [List.map_map]; rfl, ?_⟩⟩
      show PyData.bool _ = .bool (decide (ds.length ≤ 6) && _)
      rw [decide_eq_true q2, List.all_map]
      rfl
  | _ => rfl'; try rfl
def Onfo (T : Txt K mg) (ds : List PyData) (o : Out) : Prop := ∃ x, ds = [x] ∧ o = if formB x = true then .ok .none else .no T.cBadFormula
theorem okneed_formula (T : Txt K mg) : FnOk P w K mg base (L2.CX P w) 4 T.aneed_formula T.dneed_formula ["formula"] (spX K (Onfo T)) := by
  refine raiseW T.Fneed_formula scneed_formula (by rintro _ _ ⟨_, rfl, _⟩; rfl) fun cdv A outer s H E hr => ⟨_, _, (pss_one (ps_if (pt_not (kval (kcall (okis_formula T) (hr.mono (by decide)) T.g_is_formula T.k_is_formula T.b_is_formula (kpa (kvl 0) pa_nil)))) (pss_one (ps_raise rfl (takes_of rfl rfl rfl rfl) (pmk_own PySem.F.excBase_ValueError T.x_BadFormula T.g_BadFormula T.k_BadFormula (raises_own T.b_BadFormula T.t_BadFormula) (by exact rfl)))) pss_nil)), (jc_if (jt_not (jt_B (je_callP (ja_cons (je_var 0) ja_nil)))) (jc_raise (C := T.cBadFormula) (fun _ _ _ h => h)) jc_next), ?_⟩
  rintro _ o ⟨x, rfl, rfl⟩
  rfl'
  refine ⟨_, ⟨x, rfl, rfl⟩, ?_⟩
  cases q : formB x with
  | true => rfl'; try rfl
  | false => rfl'; try rfl
/-- weights: of a formula, or refused -/
def Ow (T : Txt K mg) (g : List Tm → PyData) (ds : List PyData) (o : Out) : Prop := (∃ f, FormOk f ∧ ds = [formD f] ∧ o = .ok (g f)) ∨ ∃ x, formB x = false ∧ ds = [x] ∧ o = .no T.cBadFormula
def mwD (f : List Tm) : PyData := .tuple ((mw f).map .int)
def rwD (f : List Tm) : PyData := .tuple [.int (rs .low f), .int (rs .range f), .int (rs .mean f)]
theorem okmark_weights (T : Txt K mg) : FnOk P w K mg base (L2.CX P w) 5 T.amark_weights T.dmark_weights ["formula"] (spX K (Ow T mwD)) := by
  refine raiseW T.Fmark_weights scmark_weights (by rintro _ _ (⟨_, _, rfl, _⟩ | ⟨_, _, rfl, _⟩) <;> rfl) fun cdv A outer s H E hr => ⟨_, _, (pss_cons (kexpr (pe_callS (okneed_formula T) (hr.mono (by decide)) rfl T.g_need_formula T.k_need_formula T.b_need_formula (fun σ => passAt (takes_of rfl rfl rfl rfl) σ) (kpa (kvl 0) pa_nil) (by kernel_rfl) (by kernel_rfl) (by kernel_rfl)))
      (pss_cons (ksl 1 scmark_weights.nd (pe_op op_rep (pe_lst (kpa pe_int pa_nil)) (kgc' T.c_MARK_COUNT)))
      (pss_cons (ps_for (passes_of rfl) rfl (show PI _ _ _ (iTup K _) from pi_tup (kvl 0)) (kgl 2 scmark_weights.nd) (pss_one (ps_if (pt_cmpR op_eq (pe_ix (r := rIxT K) ix_tup (kvl 2) pe_int (fun _ _ => rfl)) pe_str (nomark _)) (pss_one (ps_augS (kvl 1) (pe_ix (r := rIxT K) ix_tup (kvl 2) pe_int (fun _ _ => rfl)) pget_list (pe_ix (r := rIxT K) ix_tup (kvl 2) pe_int (fun _ _ => rfl)) ip_add set_list)) pss_nil)))
      (pss_one (ps_ret (kTy (r := rTupOf K) call_tuple_of T.n_tuple (kpa (kvl 1) pa_nil))))))), (jc_seq (jc_dropX (ja_cons (je_var 0) ja_nil) (fun _ _ _ _ h => h))
      (jc_seq (jc_own 1 (jf_rep (ja_cons je_int ja_nil) je_int))
      (jc_seq (jc_for (ji_tup (je_var 0)) (jg_name 2) (jc_if (jt_test (je_eqS (je_ixT (je_var 2) je_int) je_str)) (jc_augE 1 (je_ixT (je_var 2) je_int) (je_ixT (je_var 2) je_int)) jc_next))
      (jc_ret (je_tupOf (ja_cons (je_var 1) ja_nil)))))), ?_⟩
  rintro _ o (⟨f, hf, rfl, rfl⟩ | ⟨x, hx, rfl, rfl⟩)
  · have fo := form_ok hf
    rfl'
    refine ⟨_, ⟨formD f, rfl, rfl⟩, ?_⟩
    rw [if_pos fo]
    rfl'
    refine ⟨by decide, ?_⟩
    refine forW_of (fun j e => ∃ l : Va, e = [.dat (formD f), .own ((mw (f.take j)).map .int), l]) ⟨.emp, rfl⟩ ?_ ?_
    · rintro j d hj _ ⟨l, rfl⟩ Z hZ
      rw [List.getElem?_map] at hj
      cases em : f[j]? with
      | none => rw [em] at hj; cases hj
      | some t =>
      rw [em] at hj
      cases hj
      have ht := hf.2 t (List.mem_of_getElem? em)
      have nxt : mw (f.take (j + 1)) = mwStep (mw (f.take j)) t := by rw [List.take_add_one, em]; exact mw_snoc _ _
      cases t with
      | mark k x =>
        obtain ⟨k4, _, _⟩ := ht
        have lk : k < (mw (f.take j)).length := by rw [mw_len]; exact k4
        have ek : (mw (f.take j))[k]? = some (mw (f.take j))[k] := List.getElem?_eq_getElem lk
        rfl'
        refine ⟨⟨⟨by omega, by rw [List.length_map, mw_len]; omega⟩, by rw [List.length_map, mw_len]; decide⟩, ?_⟩
        rfl'
        refine ⟨(mw (f.take j))[k], by show ((mw (f.take j)).map PyData.int)[((k : Nat) : Int).toNat]? = _; rw [Int.toNat_natCast, List.getElem?_map, ek]; rfl, hZ _ ⟨.dat (Tm.mark k x).d, ?_⟩⟩
        rw [nxt]
        show [Va.dat (formD f), Va.own (((mw (f.take j)).map PyData.int).set ((k : Nat) : Int).toNat (.int ((mw (f.take j))[k] + x))), _] = [_, .own (((mw (f.take j)).set k ((mw (f.take j))[k]?.getD 0 + x)).map .int), _]
        rw [Int.toNat_natCast, ek, List.map_set]
        rfl
      | rel r x =>
        rfl'
        refine ifK_f (show ng false (decide (r.s = "mark")) = false from by rw [decide_eq_false (rel_nm r)]; rfl) ?_
        refine hZ _ ⟨.dat (Tm.rel r x).d, ?_⟩
        rw [nxt]
        rfl
    · rintro _ ⟨l, rfl⟩
      rw [List.length_map, List.take_length]
      rfl'
      try rfl
  · rfl'
    refine ⟨_, ⟨x, rfl, rfl⟩, ?_⟩
    rw [if_neg (by rw [hx]; decide)]
    rfl'
    try rfl
theorem okrelative_weights (T : Txt K mg) : FnOk P w K mg base (L2.CX P w) 5 T.arelative_weights T.drelative_weights ["formula"] (spX K (Ow T rwD)) := by
  refine raiseW T.Frelative_weights screlative_weights (by rintro _ _ (⟨_, _, rfl, _⟩ | ⟨_, _, rfl, _⟩) <;> rfl) fun cdv A outer s H E hr => ⟨_, _, (pss_cons (kexpr (pe_callS (okneed_formula T) (hr.mono (by decide)) rfl T.g_need_formula T.k_need_formula T.b_need_formula (fun σ => passAt (takes_of rfl rfl rfl rfl) σ) (kpa (kvc 0) pa_nil) (by kernel_rfl) (by kernel_rfl) (by kernel_rfl)))
      (pss_one (ps_ret (kTy (r := rTupOf K) call_tuple_of T.n_tuple (kpa (pe_lc (own := [("word", 2)]) (g := (gName 2)) (tt := tYes) (by rfl) screlative_weights.nd (show PI _ _ _ (iTup K _) from pi_tup (kgc' T.c_RELATIVES)) (blkOk_by (by kernel_rfl)) (fun _ _ _ _ _ => (kgc 2 screlative_weights.nd)) (fun _ _ _ _ _ => pts_nil) (fun _ _ _ _ _ => (kB (r := rSum K) (cr_sum rfl) T.n_sum (kpa (pe_lc (own := [("term", 1)]) (g := (gName 1)) (by rfl) screlative_weights.nd (show PI _ _ _ (iTup K _) from pi_tup (kvc 0)) (blkOk_by (by kernel_rfl)) (fun _ _ _ _ _ => (kgl 1 screlative_weights.nd)) (fun _ _ _ _ _ => (pts_one (pt_cmpR op_eq (pe_ix (r := rIxT K) ix_tup (kvl 1) pe_int (fun _ _ => rfl)) (kvc 2) (nomark _)))) (fun _ _ _ _ _ => (pe_ix (r := rIxT K) ix_tup (kvl 1) pe_int (fun _ _ => rfl)))) pa_nil)))) pa_nil))))), (jc_seq (jc_dropX (ja_cons (je_var 0) ja_nil) (fun _ _ _ _ h => h))
      (jc_ret (je_tupOf (ja_cons (je_of_jf (jf_lc (ji_tup (je_cst T.e_RELATIVES)) (jg_name 2) jt_yes (je_sum (ja_cons (je_of_jf (jf_lc (ji_tup (je_var 0)) (jg_name 1) (jt_test (je_eqS (je_ixT (je_var 1) je_int) (je_var 2))) (je_ixT (je_var 1) je_int) (by decide))) ja_nil)) (by decide))) ja_nil)))), ?_⟩
  rintro _ o (⟨f, hf, rfl, rfl⟩ | ⟨x, hx, rfl, rfl⟩)
  · have fo := form_ok hf
    rfl'
    refine ⟨_, ⟨formD f, rfl, rfl⟩, ?_⟩
    rw [if_pos fo]
    rfl'
    refine ⟨by decide, ?_⟩
    refine lcW_map (α := Rel) (enc := fun r => .str r.s) (xs := [.low, .range, .mean]) (f := fun r => .int (rs r f)) (fun r _ A C hA => ?_) ?_
    · rfl'
      refine ⟨by rw [List.length_map]; have := hf.1; omega, ?_⟩
      refine lcW_fil (f := fun t : Tm => .int t.w) (p := isRel r) (fun t ht A C k1 k0 => ?_) ?_
      · cases t with
        | mark k x =>
          rfl'
          refine ifK_f (show ng false (decide (("mark" : Str) = r.s)) = false from by rw [mark_s r]; rfl) ?_
          exact k0 rfl
        | rel q x =>
          rfl'
          refine ifK_of (fun e => ?_) fun e => ?_
          · have e : decide (q.s = r.s) = true := e
            rw [rel_s] at e
            rfl'
            exact k1 e
          · have e : decide (q.s = r.s) = false := e
            rw [rel_s] at e
            exact k0 e
      · refine ⟨(f.filter (isRel r)).map Tm.w, by rw [List.map_map]; rfl, ?_⟩
        exact hA
    · rfl'
      try rfl
  · rfl'
    refine ⟨_, ⟨x, rfl, rfl⟩, ?_⟩
    rw [if_neg (by rw [hx]; decide)]
    rfl'
    try rfl
end
end Sc

set_option pp.maxSteps 400
/-! k68, 5: what refuses. -/
namespace Sc
open PySem L2 Fw Wp Cd
open PyProof.Rows (envOfC)
local macro_rules | `(tactic| rfl') => `(tactic| conv => whnf)
section
variable {P : Program} {w : World} {K : PySem.W.Frag} {mg : Str → Option Value} {base : Heap}
def Or1 (T : Txt K mg) (ds : List PyData) (o : Out) : Prop := ∃ x, formB x = false ∧ ds = [x] ∧ o = .no T.cBadFormula
theorem okleast_mark_sum (T : Txt K mg) : FnOk P w K mg base (L2.CX P w) 5 T.aleast_mark_sum T.dleast_mark_sum ["formula"] (spX K (Or1 T)) := by
  refine raiseW T.Fleast_mark_sum scleast_mark_sum (by rintro _ _ ⟨_, _, rfl, _⟩; rfl) fun cdv A outer s H E hr => ⟨_, _, (pss_cons (kexpr (pe_callS (okneed_formula T) (hr.mono (by decide)) rfl T.g_need_formula T.k_need_formula T.b_need_formula (fun σ => passAt (takes_of rfl rfl rfl rfl) σ) (kpa (kvl 0) pa_nil) (by kernel_rfl) (by kernel_rfl) (by kernel_rfl)))
      (pss_one ps_never)), (jc_seq (jc_dropX (ja_cons (je_var 0) ja_nil) (fun _ _ _ _ h => h))
      jc_never), ?_⟩
  rintro _ o ⟨x, hx, rfl, rfl⟩
  rfl'
  refine ⟨_, ⟨x, rfl, rfl⟩, ?_⟩
  rw [if_neg (by rw [hx]; decide)]
  rfl'
  try rfl
theorem okpasses (T : Txt K mg) : FnOk P w K mg base (L2.CX P w) 6 T.apasses T.dpasses ["formula"] (spX K (Or1 T)) := by
  refine T.Fpasses.okX scpasses (fun vs H Q E h => ?_) fun cdv A outer s H vs Q E hr h => ⟨_, (pss_cons (kasg (pe_callS (okrelative_weights T) (hr.mono (by decide)) rfl T.g_relative_weights T.k_relative_weights T.b_relative_weights (fun σ => passAt (takes_of rfl rfl rfl rfl) σ) (kpa (kvl 0) pa_nil) (by kernel_rfl) (by kernel_rfl) (by kernel_rfl)) (kgt (n := 3) (by rfl) (kgs (kgl 1 scpasses.nd) (kgs (kgl 2 scpasses.nd) (kgs (kgl 3 scpasses.nd) pgs_nil)))))
      (pss_one ps_never)), ?_⟩
  · obtain ⟨ms, ds, o, _, ov, ⟨x, _, rfl, _⟩, _⟩ := h
    rw [dpa_len ov]
    rfl
  · obtain ⟨ms, ds, o, l, ov, ⟨x, hx, rfl, rfl⟩, _, k, _⟩ := h
    cases ov with
    | cons ov on =>
      cases on
      exact ⟨_, rfl, ms, [x], _, l, .cons ov .nil, .inr ⟨x, hx, rfl, rfl⟩, (fun d e => nomatch e), (fun c e H2 s2 => k c e H2 s2), fun c f d e => nomatch e⟩
theorem okturn (T : Txt K mg) : FnOk P w K mg base (L2.CX P w) 7 T.aturn T.dturn ["formula"] (spX K (Or1 T)) := by
  refine T.Fturn.okX scturn (fun vs H Q E h => ?_) fun cdv A outer s H vs Q E hr h => ⟨_, (pss_cons (ps_if (kval (pe_callS (okpasses T) (hr.mono (by decide)) rfl T.g_passes T.k_passes T.b_passes (fun σ => passAt (takes_of rfl rfl rfl rfl) σ) (kpa (kvl 0) pa_nil) (by kernel_rfl) (by kernel_rfl) (by kernel_rfl))) (pss_one (ps_ret pe_non)) pss_nil)
      (pss_cons ps_never
      (pss_cons ps_never
      (pss_cons ps_never
      (pss_cons ps_never
      (pss_cons ps_never
      (pss_one ps_never))))))), ?_⟩
  · obtain ⟨ms, ds, o, _, ov, ⟨x, _, rfl, _⟩, _⟩ := h
    rw [dpa_len ov]
    rfl
  · obtain ⟨ms, ds, o, l, ov, ⟨x, hx, rfl, rfl⟩, _, k, _⟩ := h
    cases ov with
    | cons ov on =>
      cases on
      exact ⟨_, rfl, ms, [x], _, l, .cons ov .nil, ⟨x, hx, rfl, rfl⟩, (fun d e => nomatch e), (fun c e H2 s2 => k c e H2 s2), fun c f d e => nomatch e⟩
/-- a formula and a field: the first wrong one is refused -/
def Or2 (T : Txt K mg) (as : List (Option PyData)) (o : Out) : Prop := ∃ x y, as = [some x, y] ∧ ((formB x = false ∧ o = .no T.cBadFormula) ∨ (formB x = true ∧ fieldO y = false ∧ o = .no T.cBadField))
theorem okscores (T : Txt K mg) : FnOk P w K mg base (L2.CX P w) 6 T.ascores T.dscores ["formula", "field"] (spY K (Or2 T)) := by
  refine raiseY T.Fscores scscores (by rintro _ _ ⟨_, _, rfl, _⟩; rfl) fun cdv A outer s H E hr => ⟨_, (pss_cons (kexpr (pe_callS (okneed_formula T) (hr.mono (by decide)) rfl T.g_need_formula T.k_need_formula T.b_need_formula (fun σ => passAt (takes_of rfl rfl rfl rfl) σ) (kpa (kvl 0) pa_nil) (by kernel_rfl) (by kernel_rfl) (by kernel_rfl)))
      (pss_cons (kexpr (pe_callS (okneed_field T) (hr.mono (by decide)) rfl T.g_need_field T.k_need_field T.b_need_field (fun σ => passAt (takes_of rfl rfl rfl rfl) σ) (kpa (kvl 1) pa_nil) (by kernel_rfl) (by kernel_rfl) (by kernel_rfl)))
      (pss_one ps_never))), fun od => ⟨_, (jc_seq (jc_dropX (ja_cons (je_var 0) ja_nil) (fun _ _ _ _ h => h))
      (jc_seq (jc_dropY (jy_var 1 jy_nil) (fun _ _ _ _ h => h))
      jc_never)), ?_⟩⟩
  rintro _ _ ⟨x, y, rfl, h⟩ hn
  rcases h with ⟨hx, rfl⟩ | ⟨hx, hy, rfl⟩
  · rfl'
    refine ⟨_, ⟨x, rfl, rfl⟩, ?_⟩
    rw [if_neg (by rw [hx]; decide)]
    rfl'
    try rfl
  · cases y with
    | none =>
      obtain ⟨D, rfl⟩ := hn (by simp)
      rfl'
      refine ⟨_, ⟨x, rfl, rfl⟩, ?_⟩
      rw [if_pos hx]
      rfl'
      refine ⟨rfl, _, ⟨none, rfl, rfl⟩, ?_⟩
      rw [if_neg (by rw [hy]; decide)]
      rfl'
      try rfl
    | some y =>
      rfl'
      refine ⟨_, ⟨x, rfl, rfl⟩, ?_⟩
      rw [if_pos hx]
      rfl'
      refine ⟨_, ⟨some y, rfl, rfl⟩, ?_⟩
      rw [if_neg (by rw [hy]; decide)]
      rfl'
      try rfl
theorem okranking (T : Txt K mg) : FnOk P w K mg base (L2.CX P w) 6 T.aranking T.dranking ["formula", "field"] (spY K (Or2 T)) := by
  refine raiseY T.Franking scranking (by rintro _ _ ⟨_, _, rfl, _⟩; rfl) fun cdv A outer s H E hr => ⟨_, (pss_cons (kexpr (pe_callS (okneed_formula T) (hr.mono (by decide)) rfl T.g_need_formula T.k_need_formula T.b_need_formula (fun σ => passAt (takes_of rfl rfl rfl rfl) σ) (kpa (kvl 0) pa_nil) (by kernel_rfl) (by kernel_rfl) (by kernel_rfl)))
      (pss_cons (kexpr (pe_callS (okneed_field T) (hr.mono (by decide)) rfl T.g_need_field T.k_need_field T.b_need_field (fun σ => passAt (takes_of rfl rfl rfl rfl) σ) (kpa (kvl 1) pa_nil) (by kernel_rfl) (by kernel_rfl) (by kernel_rfl)))
      (pss_one ps_never))), fun od => ⟨_, (jc_seq (jc_dropX (ja_cons (je_var 0) ja_nil) (fun _ _ _ _ h => h))
      (jc_seq (jc_dropY (jy_var 1 jy_nil) (fun _ _ _ _ h => h))
      jc_never)), ?_⟩⟩
  rintro _ _ ⟨x, y, rfl, h⟩ hn
  rcases h with ⟨hx, rfl⟩ | ⟨hx, hy, rfl⟩
  · rfl'
    refine ⟨_, ⟨x, rfl, rfl⟩, ?_⟩
    rw [if_neg (by rw [hx]; decide)]
    rfl'
    try rfl
  · cases y with
    | none =>
      obtain ⟨D, rfl⟩ := hn (by simp)
      rfl'
      refine ⟨_, ⟨x, rfl, rfl⟩, ?_⟩
      rw [if_pos hx]
      rfl'
      refine ⟨rfl, _, ⟨none, rfl, rfl⟩, ?_⟩
      rw [if_neg (by rw [hy]; decide)]
      rfl'
      try rfl
    | some y =>
      rfl'
      refine ⟨_, ⟨x, rfl, rfl⟩, ?_⟩
      rw [if_pos hx]
      rfl'
      refine ⟨_, ⟨some y, rfl, rfl⟩, ?_⟩
      rw [if_neg (by rw [hy]; decide)]
      rfl'
      try rfl
theorem okspoilers (T : Txt K mg) : FnOk P w K mg base (L2.CX P w) 6 T.aspoilers T.dspoilers ["formula", "field"] (spY K (Or2 T)) := by
  refine raiseY T.Fspoilers scspoilers (by rintro _ _ ⟨_, _, rfl, _⟩; rfl) fun cdv A outer s H E hr => ⟨_, (pss_cons (kexpr (pe_callS (okneed_formula T) (hr.mono (by decide)) rfl T.g_need_formula T.k_need_formula T.b_need_formula (fun σ => passAt (takes_of rfl rfl rfl rfl) σ) (kpa (kvl 0) pa_nil) (by kernel_rfl) (by kernel_rfl) (by kernel_rfl)))
      (pss_cons (kexpr (pe_callS (okneed_field T) (hr.mono (by decide)) rfl T.g_need_field T.k_need_field T.b_need_field (fun σ => passAt (takes_of rfl rfl rfl rfl) σ) (kpa (kvl 1) pa_nil) (by kernel_rfl) (by kernel_rfl) (by kernel_rfl)))
      (pss_cons ps_never
      (pss_cons ps_never
      (pss_one ps_never))))), fun od => ⟨_, (jc_seq (jc_dropX (ja_cons (je_var 0) ja_nil) (fun _ _ _ _ h => h))
      (jc_seq (jc_dropY (jy_var 1 jy_nil) (fun _ _ _ _ h => h))
      (jc_seq jc_never (jc_seq jc_never jc_never)))), ?_⟩⟩
  rintro _ _ ⟨x, y, rfl, h⟩ hn
  rcases h with ⟨hx, rfl⟩ | ⟨hx, hy, rfl⟩
  · rfl'
    refine ⟨_, ⟨x, rfl, rfl⟩, ?_⟩
    rw [if_neg (by rw [hx]; decide)]
    rfl'
    try rfl
  · cases y with
    | none =>
      obtain ⟨D, rfl⟩ := hn (by simp)
      rfl'
      refine ⟨_, ⟨x, rfl, rfl⟩, ?_⟩
      rw [if_pos hx]
      rfl'
      refine ⟨rfl, _, ⟨none, rfl, rfl⟩, ?_⟩
      rw [if_neg (by rw [hy]; decide)]
      rfl'
      try rfl
    | some y =>
      rfl'
      refine ⟨_, ⟨x, rfl, rfl⟩, ?_⟩
      rw [if_pos hx]
      rfl'
      refine ⟨_, ⟨some y, rfl, rfl⟩, ?_⟩
      rw [if_neg (by rw [hy]; decide)]
      rfl'
      try rfl
theorem okfirst_spoilers (T : Txt K mg) : FnOk P w K mg base (L2.CX P w) 6 T.afirst_spoilers T.dfirst_spoilers ["formula", "field"] (spY K (Or2 T)) := by
  refine raiseY T.Ffirst_spoilers scfirst_spoilers (by rintro _ _ ⟨_, _, rfl, _⟩; rfl) fun cdv A outer s H E hr => ⟨_, (pss_cons (kexpr (pe_callS (okneed_formula T) (hr.mono (by decide)) rfl T.g_need_formula T.k_need_formula T.b_need_formula (fun σ => passAt (takes_of rfl rfl rfl rfl) σ) (kpa (kvc 0) pa_nil) (by kernel_rfl) (by kernel_rfl) (by kernel_rfl)))
      (pss_cons (kexpr (pe_callS (okneed_field T) (hr.mono (by decide)) rfl T.g_need_field T.k_need_field T.b_need_field (fun σ => passAt (takes_of rfl rfl rfl rfl) σ) (kpa (kvc 1) pa_nil) (by kernel_rfl) (by kernel_rfl) (by kernel_rfl)))
      (pss_cons ps_never
      (pss_one ps_never)))), fun od => ⟨_, (jc_seq (jc_dropX (ja_cons (je_var 0) ja_nil) (fun _ _ _ _ h => h))
      (jc_seq (jc_dropY (jy_var 1 jy_nil) (fun _ _ _ _ h => h))
      (jc_seq jc_never jc_never))), ?_⟩⟩
  rintro _ _ ⟨x, y, rfl, h⟩ hn
  rcases h with ⟨hx, rfl⟩ | ⟨hx, hy, rfl⟩
  · rfl'
    refine ⟨_, ⟨x, rfl, rfl⟩, ?_⟩
    rw [if_neg (by rw [hx]; decide)]
    rfl'
    try rfl
  · cases y with
    | none =>
      obtain ⟨D, rfl⟩ := hn (by simp)
      rfl'
      refine ⟨_, ⟨x, rfl, rfl⟩, ?_⟩
      rw [if_pos hx]
      rfl'
      refine ⟨rfl, _, ⟨none, rfl, rfl⟩, ?_⟩
      rw [if_neg (by rw [hy]; decide)]
      rfl'
      try rfl
    | some y =>
      rfl'
      refine ⟨_, ⟨x, rfl, rfl⟩, ?_⟩
      rw [if_pos hx]
      rfl'
      refine ⟨_, ⟨some y, rfl, rfl⟩, ?_⟩
      rw [if_neg (by rw [hy]; decide)]
      rfl'
      try rfl
def Or2f (T : Txt K mg) (as : List (Option PyData)) (o : Out) : Prop := ∃ x y, as = [some x, y] ∧ formB x = false ∧ o = .no T.cBadFormula
theorem okis_turn (T : Txt K mg) : FnOk P w K mg base (L2.CX P w) 6 T.ais_turn T.dis_turn ["formula", "thing"] (spY K (Or2f T)) := by
  refine raiseY T.Fis_turn scis_turn (by rintro _ _ ⟨_, _, rfl, _⟩; rfl) fun cdv A outer s H E hr => ⟨_, (pss_cons (kexpr (pe_callS (okneed_formula T) (hr.mono (by decide)) rfl T.g_need_formula T.k_need_formula T.b_need_formula (fun σ => passAt (takes_of rfl rfl rfl rfl) σ) (kpa (kvl 0) pa_nil) (by kernel_rfl) (by kernel_rfl) (by kernel_rfl)))
      (pss_cons ps_never
      (pss_one ps_never))), fun od => ⟨_, (jc_seq (jc_dropX (ja_cons (je_var 0) ja_nil) (fun _ _ _ _ h => h))
      (jc_seq jc_never jc_never)), ?_⟩⟩
  rintro _ _ ⟨x, y, rfl, hx, rfl⟩ hn
  rfl'
  refine ⟨_, ⟨x, rfl, rfl⟩, ?_⟩
  rw [if_neg (by rw [hx]; decide)]
  rfl'
  try rfl
/-- a field is a list or a tuple -/
theorem field_seq {x : PyData} (h : fieldB x = true) : ∃ xs : List PyData, (x = .list xs ∨ x = .tuple xs) ∧ xs.length ≤ 130 := by
  cases x with
  | list ds =>
    have h : (decide (ds.length ≤ 130) && _) = true := h
    rw [Bool.and_eq_true, decide_eq_true_eq] at h
    exact ⟨ds, .inl rfl, h.1⟩
  | tuple ds =>
    have h : (decide (ds.length ≤ 130) && _) = true := h
    rw [Bool.and_eq_true, decide_eq_true_eq] at h
    exact ⟨ds, .inr rfl, h.1⟩
  | _ => cases h
def lenD : PyData → Int
  | .list ds => ds.length
  | .tuple ds => ds.length
  | _ => 0
def Or3 (T : Txt K mg) (as : List (Option PyData)) (o : Out) : Prop := ∃ x y i, as = [some x, y, some i] ∧ ((formB x = false ∧ o = .no T.cBadFormula) ∨ (formB x = true ∧ fieldO y = false ∧ o = .no T.cBadField) ∨ ∃ z, formB x = true ∧ y = some z ∧ fieldB z = true ∧ whI i 0 (lenD z - 1) = false ∧ o = .no T.cBadIndex)
theorem okscore (T : Txt K mg) : FnOk P w K mg base (L2.CX P w) 6 T.ascore T.dscore ["formula", "field", "index"] (spY K (Or3 T)) := by
  refine raiseY T.Fscore scscore (by rintro _ _ ⟨_, _, _, rfl, _⟩; rfl) fun cdv A outer s H E hr => ⟨_, (pss_cons (kexpr (pe_callS (okneed_formula T) (hr.mono (by decide)) rfl T.g_need_formula T.k_need_formula T.b_need_formula (fun σ => passAt (takes_of rfl rfl rfl rfl) σ) (kpa (kvl 0) pa_nil) (by kernel_rfl) (by kernel_rfl) (by kernel_rfl)))
      (pss_cons (kexpr (pe_callS (okneed_field T) (hr.mono (by decide)) rfl T.g_need_field T.k_need_field T.b_need_field (fun σ => passAt (takes_of rfl rfl rfl rfl) σ) (kpa (kvl 1) pa_nil) (by kernel_rfl) (by kernel_rfl) (by kernel_rfl)))
      (pss_cons (kexpr (pe_callS (okneed_index T) (hr.mono (by decide)) rfl T.g_need_index T.k_need_index T.b_need_index (fun σ => passAt (takes_of rfl rfl rfl rfl) σ) (kpa (kvl 1) (kpa (kvl 2) pa_nil)) (by kernel_rfl) (by kernel_rfl) (by kernel_rfl)))
      (pss_one ps_never)))), fun od => ⟨_, (jc_seq (jc_dropX (ja_cons (je_var 0) ja_nil) (fun _ _ _ _ h => h))
      (jc_seq (jc_dropY (jy_var 1 jy_nil) (fun _ _ _ _ h => h))
      (jc_seq (jc_dropX (ja_cons (je_var 1) (ja_cons (je_var 2) ja_nil)) (fun _ _ _ _ h => h))
      jc_never))), ?_⟩⟩
  rintro _ _ ⟨x, y, i, rfl, h⟩ hn
  rcases h with ⟨hx, rfl⟩ | ⟨hx, hy, rfl⟩ | ⟨z, hx, rfl, hz, hi, rfl⟩
  · rfl'
    refine ⟨_, ⟨x, rfl, rfl⟩, ?_⟩
    rw [if_neg (by rw [hx]; decide)]
    rfl'
    try rfl
  · cases y with
    | none =>
      obtain ⟨D, rfl⟩ := hn (by simp)
      rfl'
      refine ⟨_, ⟨x, rfl, rfl⟩, ?_⟩
      rw [if_pos hx]
      rfl'
      refine ⟨rfl, _, ⟨none, rfl, rfl⟩, ?_⟩
      rw [if_neg (by rw [hy]; decide)]
      rfl'
      try rfl
    | some y =>
      rfl'
      refine ⟨_, ⟨x, rfl, rfl⟩, ?_⟩
      rw [if_pos hx]
      rfl'
      refine ⟨_, ⟨some y, rfl, rfl⟩, ?_⟩
      rw [if_neg (by rw [hy]; decide)]
      rfl'
      try rfl
  · obtain ⟨xs, hs, ls⟩ := field_seq hz
    have el : lenD z = (xs.length : Int) := by rcases hs with rfl | rfl <;> rfl
    rw [el] at hi
    have hz' : fieldO (some z) = true := hz
    rfl'
    refine ⟨_, ⟨x, rfl, rfl⟩, ?_⟩
    rw [if_pos hx]
    rfl'
    refine ⟨_, ⟨some z, rfl, rfl⟩, ?_⟩
    rw [if_pos hz']
    rfl'
    refine ⟨_, ⟨z, xs, i, hs, by omega, rfl, rfl⟩, ?_⟩
    rw [if_neg (by rw [hi]; decide)]
    rfl'
    try rfl
def Or4 (T : Txt K mg) (as : List (Option PyData)) (o : Out) : Prop := ∃ x y i j, as = [some x, y, some i, some j] ∧ ((formB x = false ∧ o = .no T.cBadFormula) ∨ (formB x = true ∧ fieldO y = false ∧ o = .no T.cBadField) ∨ ∃ z, formB x = true ∧ y = some z ∧ fieldB z = true ∧ (whI i 0 (lenD z - 1) = false ∨ (i = .int 0 ∧ 1 ≤ lenD z ∧ (whI j 0 (lenD z - 1) = false ∨ j = .int 0))) ∧ o = .no T.cBadIndex)
theorem okahead (T : Txt K mg) : FnOk P w K mg base (L2.CX P w) 6 T.aahead T.dahead ["formula", "field", "first", "second"] (spY K (Or4 T)) := by
  refine raiseY T.Fahead scahead (by rintro _ _ ⟨_, _, _, _, rfl, _⟩; rfl) fun cdv A outer s H E hr => ⟨_, (pss_cons (kexpr (pe_callS (okneed_formula T) (hr.mono (by decide)) rfl T.g_need_formula T.k_need_formula T.b_need_formula (fun σ => passAt (takes_of rfl rfl rfl rfl) σ) (kpa (kvl 0) pa_nil) (by kernel_rfl) (by kernel_rfl) (by kernel_rfl)))
      (pss_cons (kexpr (pe_callS (okneed_field T) (hr.mono (by decide)) rfl T.g_need_field T.k_need_field T.b_need_field (fun σ => passAt (takes_of rfl rfl rfl rfl) σ) (kpa (kvl 1) pa_nil) (by kernel_rfl) (by kernel_rfl) (by kernel_rfl)))
      (pss_cons (kexpr (pe_callS (okneed_index T) (hr.mono (by decide)) rfl T.g_need_index T.k_need_index T.b_need_index (fun σ => passAt (takes_of rfl rfl rfl rfl) σ) (kpa (kvl 1) (kpa (kvl 2) pa_nil)) (by kernel_rfl) (by kernel_rfl) (by kernel_rfl)))
      (pss_cons (kexpr (pe_callS (okneed_index T) (hr.mono (by decide)) rfl T.g_need_index T.k_need_index T.b_need_index (fun σ => passAt (takes_of rfl rfl rfl rfl) σ) (kpa (kvl 1) (kpa (kvl 3) pa_nil)) (by kernel_rfl) (by kernel_rfl) (by kernel_rfl)))
      (pss_cons (ps_if (pt_cmpR (r := rEqD K) (op_eqD hr.units) (kvl 2) (kvl 3) (nomark _)) (pss_one (ps_raise rfl (takes_of rfl rfl rfl rfl) (pmk_own PySem.F.excBase_ValueError T.x_BadIndex T.g_BadIndex T.k_BadIndex (raises_own T.b_BadIndex T.t_BadIndex) (by exact rfl)))) pss_nil)
      (pss_one ps_never)))))), fun od => ⟨_, (jc_seq (jc_dropX (ja_cons (je_var 0) ja_nil) (fun _ _ _ _ h => h))
      (jc_seq (jc_dropY (jy_var 1 jy_nil) (fun _ _ _ _ h => h))
      (jc_seq (jc_dropX (ja_cons (je_var 1) (ja_cons (je_var 2) ja_nil)) (fun _ _ _ _ h => h))
      (jc_seq (jc_dropX (ja_cons (je_var 1) (ja_cons (je_var 3) ja_nil)) (fun _ _ _ _ h => h))
      (jc_seq (jc_if (jt_test (je_eqD (je_var 2) (je_var 3))) (jc_raise (C := T.cBadIndex) (fun _ _ _ h => h)) jc_next)
      jc_never))))), ?_⟩⟩
  rintro _ _ ⟨x, y, i, j, rfl, h⟩ hn
  rcases h with ⟨hx, rfl⟩ | ⟨hx, hy, rfl⟩ | ⟨z, hx, rfl, hz, hi, rfl⟩
  · rfl'
    refine ⟨_, ⟨x, rfl, rfl⟩, ?_⟩
    rw [if_neg (by rw [hx]; decide)]
    rfl'
    try rfl
  · cases y with
    | none =>
      obtain ⟨D, rfl⟩ := hn (by simp)
      rfl'
      refine ⟨_, ⟨x, rfl, rfl⟩, ?_⟩
      rw [if_pos hx]
      rfl'
      refine ⟨rfl, _, ⟨none, rfl, rfl⟩, ?_⟩
      rw [if_neg (by rw [hy]; decide)]
      rfl'
      try rfl
    | some y =>
      rfl'
      refine ⟨_, ⟨x, rfl, rfl⟩, ?_⟩
      rw [if_pos hx]
      rfl'
      refine ⟨_, ⟨some y, rfl, rfl⟩, ?_⟩
      rw [if_neg (by rw [hy]; decide)]
      rfl'
      try rfl
  · obtain ⟨xs, hs, ls⟩ := field_seq hz
    have el : lenD z = (xs.length : Int) := by rcases hs with rfl | rfl <;> rfl
    rw [el] at hi
    have hz' : fieldO (some z) = true := hz
    rfl'
    refine ⟨_, ⟨x, rfl, rfl⟩, ?_⟩
    rw [if_pos hx]
    rfl'
    refine ⟨_, ⟨some z, rfl, rfl⟩, ?_⟩
    rw [if_pos hz']
    rfl'
    refine ⟨_, ⟨z, xs, i, hs, by omega, rfl, rfl⟩, ?_⟩
    rcases hi with hi | ⟨rfl, h1, hj⟩
    · rw [if_neg (by rw [hi]; decide)]
      rfl'
      try rfl
    · rw [if_pos (whI_to (by omega) (by omega))]
      rfl'
      refine ⟨_, ⟨z, xs, j, hs, by omega, rfl, rfl⟩, ?_⟩
      rcases hj with hj | rfl
      · rw [if_neg (by rw [hj]; decide)]
        rfl'
        try rfl
      · rw [if_pos (whI_to (by omega) (by omega))]
        rfl'
        exact ⟨⟨(shp_int 0).shaped (by decide), (shp_int 0).shaped (by decide)⟩, rfl⟩
end
end Sc

/-! k69: the mathematics. -/
namespace Sc
/-! ### bounds by bits -/
def Nb (n : Nat) (x : Int) : Prop := x.natAbs < 2 ^ n
theorem Nb.mono {a b : Nat} {x : Int} (h : Nb a x) (l : a ≤ b) : Nb b x := Nat.lt_of_lt_of_le h (Nat.pow_le_pow_right (by decide) l)
theorem Nb.mul {a b : Nat} {x y : Int} (h : Nb a x) (g : Nb b y) : Nb (a + b) (x * y) := by
  unfold Nb
  rw [Int.natAbs_mul, Nat.pow_add]
  exact Nat.mul_lt_mul'' h g
theorem Nb.add {a : Nat} {x y : Int} (h : Nb a x) (g : Nb a y) : Nb (a + 1) (x + y) := by
  unfold Nb at *
  have := Int.natAbs_add_le x y
  rw [Nat.pow_succ]
  omega
theorem Nb.sub {a : Nat} {x y : Int} (h : Nb a x) (g : Nb a y) : Nb (a + 1) (x - y) := by
  unfold Nb at *
  rw [Nat.pow_succ]
  omega
theorem Nb.of {n : Nat} {x : Int} (h0 : 0 ≤ x) (h : x < ((2 ^ n : Nat) : Int)) : Nb n x := by
  unfold Nb
  omega
theorem cmw {x y : Int} (h : Nb 1000 x) (g : Nb 1000 y) : L2.CMulW x y := L2.wide_mul (a := 1000) (b := 1000) h g (by decide) (by decide) (by decide)
theorem cdw {x y : Int} (h : 0 < y) (g : Nb 1000 y) : L2.CDivW x y := L2.wide_div (b := 1000) h g (by decide) (by decide)
/-! ### least, greatest, sums -/
def minL : List Int → Int
  | [] => 0
  | [x] => x
  | x :: y :: r => min x (minL (y :: r))
def maxL : List Int → Int
  | [] => 0
  | [x] => x
  | x :: y :: r => max x (maxL (y :: r))
theorem minL_mem : ∀ {l : List Int}, l ≠ [] → minL l ∈ l
  | [], h => absurd rfl h
  | [x], _ => List.mem_cons_self
  | x :: y :: r, _ => by
    have ih := minL_mem (l := y :: r) (by simp)
    show min x (minL (y :: r)) ∈ _
    rcases Int.le_total x (minL (y :: r)) with h | h
    · rw [Int.min_eq_left h]; exact List.mem_cons_self
    · rw [Int.min_eq_right h]; exact List.mem_cons_of_mem _ ih
theorem minL_le : ∀ {l : List Int} {z : Int}, z ∈ l → minL l ≤ z
  | [x], z, h => by rw [List.mem_singleton.mp h]; exact Int.le_refl _
  | x :: y :: r, z, h => by
    show min x (minL (y :: r)) ≤ z
    rcases List.mem_cons.mp h with e | e
    · rw [e]; exact Int.min_le_left _ _
    · exact Int.le_trans (Int.min_le_right _ _) (minL_le e)
theorem maxL_mem : ∀ {l : List Int}, l ≠ [] → maxL l ∈ l
  | [], h => absurd rfl h
  | [x], _ => List.mem_cons_self
  | x :: y :: r, _ => by
    have ih := maxL_mem (l := y :: r) (by simp)
    show max x (maxL (y :: r)) ∈ _
    rcases Int.le_total x (maxL (y :: r)) with h | h
    · rw [Int.max_eq_right h]; exact List.mem_cons_of_mem _ ih
    · rw [Int.max_eq_left h]; exact List.mem_cons_self
theorem maxL_le : ∀ {l : List Int} {z : Int}, z ∈ l → z ≤ maxL l
  | [x], z, h => by rw [List.mem_singleton.mp h]; exact Int.le_refl _
  | x :: y :: r, z, h => by
    show z ≤ max x (maxL (y :: r))
    rcases List.mem_cons.mp h with e | e
    · rw [e]; exact Int.le_max_left _ _
    · exact Int.le_trans (maxL_le e) (Int.le_max_right _ _)
theorem sum_bounds {M : Int} (hM : 0 ≤ M) : ∀ {l : List Int}, (∀ z ∈ l, 0 ≤ z ∧ z ≤ M) → 0 ≤ l.sum ∧ l.sum ≤ M * (l.length : Int)
  | [], _ => by simp
  | x :: l, h => by
    have ih := sum_bounds hM (l := l) fun z hz => h z (List.mem_cons_of_mem _ hz)
    have hx := h x List.mem_cons_self
    rw [List.sum_cons, List.length_cons]
    have e : M * ((l.length + 1 : Nat) : Int) = M * (l.length : Int) + M := by
      rw [Int.natCast_add, Int.mul_add]
      simp
    rw [e]
    omega
/-! ### fractions in lowest terms -/
def red (a b : Int) : Int × Int := (a / ((Nat.gcd a.natAbs b.natAbs : Nat) : Int), b / ((Nat.gcd a.natAbs b.natAbs : Nat) : Int))
theorem red_nat {a b c d : Nat} (hb : 0 < b) (hd : 0 < d) (h : a * d = c * b) : a / Nat.gcd a b = c / Nat.gcd c d ∧ b / Nat.gcd a b = d / Nat.gcd c d := by
  have g1 : 0 < Nat.gcd a b := Nat.gcd_pos_of_pos_right _ hb
  have g2 : 0 < Nat.gcd c d := Nat.gcd_pos_of_pos_right _ hd
  have c1 : Nat.Coprime (a / Nat.gcd a b) (b / Nat.gcd a b) := Nat.coprime_div_gcd_div_gcd g1
  have c2 : Nat.Coprime (c / Nat.gcd c d) (d / Nat.gcd c d) := Nat.coprime_div_gcd_div_gcd g2
  have ea : Nat.gcd a b * (a / Nat.gcd a b) = a := Nat.mul_div_cancel' (Nat.gcd_dvd_left _ _)
  have eb : Nat.gcd a b * (b / Nat.gcd a b) = b := Nat.mul_div_cancel' (Nat.gcd_dvd_right _ _)
  have ec : Nat.gcd c d * (c / Nat.gcd c d) = c := Nat.mul_div_cancel' (Nat.gcd_dvd_left _ _)
  have ed : Nat.gcd c d * (d / Nat.gcd c d) = d := Nat.mul_div_cancel' (Nat.gcd_dvd_right _ _)
  generalize Nat.gcd a b = g at *
  generalize Nat.gcd c d = k at *
  generalize a / g = a' at *
  generalize b / g = b' at *
  generalize c / k = c' at *
  generalize d / k = d' at *
  subst ea eb ec ed
  have e : a' * d' = c' * b' := by
    have h2 : (g * k) * (a' * d') = (g * k) * (c' * b') := by
      have x1 : g * a' * (k * d') = (g * k) * (a' * d') := by simp only [Nat.mul_comm, Nat.mul_left_comm, Nat.mul_assoc]
      have x2 : k * c' * (g * b') = (g * k) * (c' * b') := by simp only [Nat.mul_comm, Nat.mul_left_comm, Nat.mul_assoc]
      rw [← x1, ← x2]; exact h
    exact Nat.eq_of_mul_eq_mul_left (Nat.mul_pos g1 g2) h2
  have d1 : b' ∣ d' := c1.symm.dvd_of_dvd_mul_left (by rw [e]; exact Nat.dvd_mul_left _ _)
  have d2 : d' ∣ b' := c2.symm.dvd_of_dvd_mul_left (by rw [← e]; exact Nat.dvd_mul_left _ _)
  have eb : b' = d' := Nat.dvd_antisymm d1 d2
  subst eb
  have pb : 0 < b' := by
    rcases Nat.eq_zero_or_pos b' with z | z
    · rw [z, Nat.mul_zero] at hb; exact absurd hb (by decide)
    · exact z
  exact ⟨Nat.eq_of_mul_eq_mul_right pb e, rfl⟩
theorem red_eq {a b c d : Int} (ha : 0 ≤ a) (hc : 0 ≤ c) (hb : 0 < b) (hd : 0 < d) (h : a * d = c * b) : red a b = red c d := by
  obtain ⟨a, rfl⟩ := Int.eq_ofNat_of_zero_le ha
  obtain ⟨c, rfl⟩ := Int.eq_ofNat_of_zero_le hc
  obtain ⟨b, rfl⟩ := Int.eq_ofNat_of_zero_le (Int.le_of_lt hb)
  obtain ⟨d, rfl⟩ := Int.eq_ofNat_of_zero_le (Int.le_of_lt hd)
  have h' : a * d = c * b := by exact_mod_cast h
  have r := red_nat (by omega) (by omega) h'
  unfold red
  simp only [Int.natAbs_natCast]
  refine Prod.ext ?_ ?_
  · show ((a : Int) / ((Nat.gcd a b : Nat) : Int)) = (c : Int) / ((Nat.gcd c d : Nat) : Int)
    rw [← Int.natCast_ediv, ← Int.natCast_ediv, r.1]
  · show ((b : Int) / ((Nat.gcd a b : Nat) : Int)) = (d : Int) / ((Nat.gcd c d : Nat) : Int)
    rw [← Int.natCast_ediv, ← Int.natCast_ediv, r.2]
end Sc

/-! k68, 6: the source of draws. -/
namespace Sc
open PySem L2 Fw
open PyProof.Rows (envOfC)
section
variable {P : Program} {w : World} {K : PySem.W.Frag} {mg : Str → Option Value} {base : Heap} {A : DrawA} {ms : List Addr} {B : Bs} {ρ : List Sl} {σ : L2.St} {H : Hp} {D : Ends} {tz : TS} {tv te : TE} {i : Nat} {E : XK}
theorem qq_putRest (a : At K (DW K A) ms B ρ σ H) (h : ρ[i]? = some (.raw (.ref A.d))) (e : En K (DW K A) tv ρ (IsI fun _ => True)) (k : ∀ H', At K (DW K A) ms B ρ σ H' → tz D σ H') : tSeq (sDPut (tVar i) (tC (.str "rest")) tv) tz D σ H := q_putRest (D := { D with nx := tz D }) a h e k
theorem qq_putTurn (a : At K (DW K A) ms B ρ σ H) (h : ρ[i]? = some (.raw (.ref A.d))) (e : En K (DW K A) tv ρ (IsI fun _ => True)) (k : ∀ H', At K (DW K A) ms B ρ σ H' → tz D σ H') : tSeq (sDPut (tVar i) (tC (.str "turn")) tv) tz D σ H := q_putTurn (D := { D with nx := tz D }) a h e k
theorem s_fin {K : PySem.W.Frag} {W : Wd} {ms : List Addr} {B : Bs} {ρ : List Sl} {σ : L2.St} {H : Hp} {te : TE} {d : PyData} {D : Ends} (h : At K W ms B ρ σ H) (e : Evd K W te ρ d) (k : ∀ v H', At K W ms B [] [] H' → Dp K (cut ms H') v d → D.rt v H') : tRet te D σ H :=
  s_ret h e fun v H' h' _ o => k v H' h'.nil o
theorem paired_len {α : Type} {Φ : α → PyData → Prop} : ∀ {xs : List α} {es : List PyData}, Paired Φ xs es → xs.length = es.length
  | _, _, .nil => rfl
  | _, _, .cons _ t => by rw [List.length_cons, List.length_cons, paired_len t]
theorem paired_all {α : Type} {Φ : α → PyData → Prop} : ∀ {xs : List α} {es : List PyData}, Paired Φ xs es → ∀ {y : PyData}, y ∈ es → ∃ x, Φ x y
  | _, _, .nil, _, h => absurd h List.not_mem_nil
  | _, _, .cons a t, y, h => (List.mem_cons.mp h).elim (fun q => ⟨_, q ▸ a⟩) fun q => paired_all t q
/-! ### _law_mixed -/
def greats : List PyData := [.int 2147483629, .int 2147483587, .int 2147483579]
theorem great_of {i : Nat} {d : PyData} (h : greats[i]? = some d) : ∃ g : Int, d = .int g ∧ 2147483579 ≤ g ∧ g ≤ 2147483629 := by
  have m := List.mem_of_getElem? h
  simp only [greats, List.mem_cons, List.not_mem_nil, or_false] at m
  rcases m with rfl | rfl | rfl
  · exact ⟨_, rfl, by decide, by decide⟩
  · exact ⟨_, rfl, by decide, by decide⟩
  · exact ⟨_, rfl, by decide, by decide⟩
def Pm (ds : List PyData) : Prop := ds = []
def Gm (_ : List PyData) (d : PyData) : Prop := ∃ n : Int, d = .int n
theorem ok_law_mixed (T : Txt K mg) : FnOk P w K mg base CX0 1 T.a_law_mixed T.d_law_mixed ["draw"] (spN K Pm Gm) := by
  refine drawOk T.F_law_mixed sc_law_mixed (by rintro _ rfl; rfl) fun cdv A outer s H E hr => ⟨_, (pss_cons (ps_dput (hu_of hr) (kvl 0) pe_str (pe_op op_add (pe_dget (hu_of hr) (kvl 0) pe_str (fun _ _ => rfl)) pe_int) rfl)
      (pss_cons (kpar (i := 1) (j := 2) (by rfl) sc_law_mixed.nd (by decide) (kpa (kTy call_int1 T.n_int (kpa (pe_dget (hu_of hr) (kvl 0) pe_str (fun _ _ => rfl)) pa_nil)) (kpa pe_int pa_nil)))
      (pss_cons (ps_for PassesOwn.never rfl (show PI _ _ _ (iList K _) from pi_list (pe_lst (kpa pe_int (kpa pe_int (kpa pe_int pa_nil))))) (kgl 3 sc_law_mixed.nd) (pss_cons (ksl 4 sc_law_mixed.nd (pe_op op_mod (kTy call_int1 T.n_int (kpa (pe_op op_add (pe_op op_mul (kvl 1) pe_int) (pe_op op_fdivW (kvl 3) pe_int)) pa_nil)) (kvl 3)))
      (pss_cons (ps_for PassesOwn.never rfl (show PI _ _ _ (iList K _) from pi_list (pe_dget (hu_of hr) (kvl 0) pe_str (fun _ _ => rfl))) (kgl 5 sc_law_mixed.nd) (pss_one (ksl 4 sc_law_mixed.nd (pe_op op_mod (kTy call_int1 T.n_int (kpa (pe_op op_add (pe_op op_add (pe_op op_mul (kvl 4) pe_int) (kTy call_int1 T.n_int (kpa (kvl 5) pa_nil))) pe_int) pa_nil)) (kvl 3)))))
      (pss_one (ksl 2 sc_law_mixed.nd (pe_op op_add (pe_op op_mul (kvl 2) pe_int) (pe_op op_mod (kTy call_int1 T.n_int (kpa (pe_op op_pow (kvl 4) pe_int) pa_nil)) (kvl 3))))))))
      (pss_one (ps_ret (kvl 2)))))), ?_⟩
  rintro _ rfl A ms σ H Q h k
  have h : At K (DW K A) ms ⟨H, H⟩ [.raw (.ref A.d), .emp, .emp, .emp, .emp, .emp] σ H := h
  refine qq_putTurn h rfl (en_I0 (Ψ := fun _ => True) (en_turn rfl) (en_int (Ψ := fun _ => True) trivial) (fun _ _ _ _ => trivial)) fun H1 h1 => ?_
  refine q_parN h1 (en_toInt (en_turn rfl)) (en_int (Ψ := fun _ => True) trivial) fun s1 s2 σ2 H2 p1 p2 h2 => ?_
  obtain ⟨t, rfl, _⟩ := p1
  obtain ⟨f0, rfl, _⟩ := p2
  dsimp only [List.set] at h2
  refine q_forE (α := Int) (R := fun i p => [.raw (.ref A.d), .dat (.int t), .dat (.int p), .emp, .emp, .emp]) (S := fun i p => [.raw (.ref A.d), .dat (.int t), .dat (.int p), .dat (greats[i]?.getD .none), .emp, .emp]) (X := fun _ _ _ => True) f0 h2 (ds := greats)
    (src_list (ev_lst (ed_cons ev_int (ed_cons ev_int (ed_cons ev_int ed_nil))) (by show 3 ≤ 100000; decide))) (Le.refl _) (fun _ _ _ => trivial) (fun i p d hd => ⟨[3], ?_⟩) (fun Hb i p d σ3 H3 hd h3 _ => ?_) (fun p σ3 H3 h3 _ => ?_) (fun _ _ _ _ _ _ z => z)
  · rw [hd]
    exact tg_name
  · obtain ⟨g, rfl, g1, g2⟩ := great_of hd
    dsimp only at h3
    rw [hd] at h3
    have h3 : At K (DW K A) ms ⟨H, Hb⟩ [.raw (.ref A.d), .dat (.int t), .dat (.int p), .dat (.int g), .emp, .emp] σ3 H3 := h3
    refine q_asg h3 (ev_mod (ev_toInt (ev_add (ev_mul (evd_var rfl) ev_int (.inr (by decide))) (ev_divW (evd_var rfl) ev_int (cdw (by decide) (Nb.of (by decide) (by decide)))))) (evd_var rfl) (by omega)) fun σ4 H4 h4 _ => ?_
    dsimp only [List.set] at h4
    refine q_forE (α := Int) (R := fun i q => [.raw (.ref A.d), .dat (.int t), .dat (.int p), .dat (.int g), .dat (.int q), .emp]) (S := fun i q => [.raw (.ref A.d), .dat (.int t), .dat (.int p), .dat (.int g), .dat (.int q), .dat ((A.cells.map PyData.int)[i]?.getD .none)]) (X := fun _ q _ => 0 ≤ q ∧ q < g) _ h4
      (src_list (ev_cells rfl)) (Le.refl _) (fun _ _ _ => ⟨Int.emod_nonneg _ (by omega), Int.emod_lt_of_pos _ (by omega)⟩) (fun i q d hd => ⟨[5], ?_⟩) (fun Hb i q d σ5 H5 hd h5 o5 => ?_) (fun q σ5 H5 h5 o5 => ?_) (fun _ _ _ _ _ _ z => z)
    · rw [hd]
      exact tg_name
    · rw [hd] at h5
      rw [List.getElem?_map] at hd
      cases ec : A.cells[i]? with
      | none => rw [ec] at hd; cases hd
      | some c =>
        rw [ec] at hd
        cases hd
        have h5 : At K (DW K A) ms ⟨H, Hb⟩ [.raw (.ref A.d), .dat (.int t), .dat (.int p), .dat (.int g), .dat (.int q), .dat (.int c)] σ5 H5 := h5
        refine s_asg h5 (ev_mod (ev_toInt (ev_add (ev_add (ev_mul (evd_var rfl) ev_int (.inr (by decide))) (ev_toInt (evd_var rfl))) ev_int)) (evd_var rfl) (by omega)) fun σ6 H6 h6 _ => ?_
        dsimp only [List.set] at h6
        exact ⟨_, h6.le (.same (.same (.same (.same (.same (.emp .nil)))))), Int.emod_nonneg _ (by omega), Int.emod_lt_of_pos _ (by omega)⟩
    · refine s_asg h5 (ev_add (ev_mul (evd_var rfl) ev_int (.inr (by decide))) (ev_mod (ev_toInt (ev_pow (evd_var rfl) ev_int ⟨by decide, by decide, by have := o5.1; have := o5.2; omega⟩)) (evd_var rfl) (by omega))) fun σ6 H6 h6 _ => ?_
      dsimp only [List.set] at h6
      exact ⟨_, h6.le (.same (.same (.same (.emp (.emp (.emp .nil)))))), trivial⟩
  · exact s_fin h3 (evd_var rfl) fun v H' a o => k _ v H' ⟨_, rfl⟩ a o
/-! ### _law_take -/
def Pt (ds : List PyData) : Prop := ∃ m : Int, 0 < m ∧ Nb 1000 m ∧ ds = [.int m]
def Gt (ds : List PyData) (d : PyData) : Prop := ∃ m n : Int, ds = [.int m] ∧ d = .int n ∧ 0 ≤ n ∧ n < m
theorem ok_law_take (T : Txt K mg) : FnOk P w K mg base CX0 2 T.a_law_take T.d_law_take ["draw", "many"] (spN K Pt Gt) := by
  refine drawOk T.F_law_take sc_law_take (by rintro _ ⟨m, _, _, rfl⟩; rfl) fun cdv A outer s H E hr => ⟨_, (pss_cons (ps_if (pt_cmpR op_eq (pe_dget (hu_of hr) (kvl 0) pe_str (fun _ _ => rfl)) pe_int (nomark _)) (pss_one (ps_dput (hu_of hr) (kvl 0) pe_str (pe_ifExp (pt_cmpR (r := rNeD K) (op_neD hr.units) (pe_dget (hu_of hr) (kvl 0) pe_str (fun _ _ => rfl)) (pe_lst pa_nil) (nomark _)) (show PE _ _ (tBM K "list" _ _ _) from kmeth PySem.F.plainAttrs_list PySem.F.slot_list_pop PySem.F.type_list_pop mt_popAt (pe_dget (hu_of hr) (kvl 0) pe_str (fun _ _ => rfl)) (kpa pe_int pa_nil)) (kcall (ok_law_mixed T) (hr.mono (by decide)) T.g__law_mixed T.k__law_mixed T.b__law_mixed (kpa (kvl 0) pa_nil))) rfl)) pss_nil)
      (pss_cons (ksl 2 sc_law_take.nd (pe_op op_mod (kTy call_int1 T.n_int (kpa (pe_dget (hu_of hr) (kvl 0) pe_str (fun _ _ => rfl)) pa_nil)) (kvl 1)))
      (pss_cons (ps_dput (hu_of hr) (kvl 0) pe_str (pe_op op_fdivW (kTy call_int1 T.n_int (kpa (pe_dget (hu_of hr) (kvl 0) pe_str (fun _ _ => rfl)) pa_nil)) (kvl 1)) rfl)
      (pss_one (ps_ret (kvl 2)))))), ?_⟩
  rintro _ ⟨m, hm, nm, rfl⟩ A ms σ H Q h k
  have h : At K (DW K A) ms ⟨H, H⟩ [.raw (.ref A.d), .dat (.int m), .emp] σ H := h
  refine q_cut (M := fun σ' H' => At K (DW K A) ms ⟨H, H⟩ [.raw (.ref A.d), .dat (.int m), .emp] σ' H') (fun Z hZ => ?_) fun σ1 H1 h1 => ?_
  · refine s_ifN h (en_eqI (en_rest rfl) ev_int) (fun _ H1 h1 => ?_) (fun _ H1 h1 => hZ _ _ h1)
    exact q_putRest h1 rfl (en_next rfl (isi_of (en_callN rfl end_nil fun _ e => e) fun d ⟨_, _, n, e⟩ => ⟨n, e, trivial⟩)) fun H2 h2 => hZ _ _ h2
  · refine q_asgN h1 (en_I (Ψ := fun n => 0 ≤ n ∧ n < m) (en_toInt (en_rest rfl)) (en_evi (Ψ := (· = m)) (evd_var rfl) rfl) (fun i j _ e => by rw [show j = m from e]; exact hm) (fun i j _ e => by rw [show j = m from e]; exact ⟨Int.emod_nonneg _ (by omega), Int.emod_lt_of_pos _ hm⟩)) fun s σ2 H2 p2 h2 => ?_
    obtain ⟨n, rfl, b⟩ := p2
    dsimp only [List.set] at h2
    exact qq_putRest h2 rfl (en_I (Ψ := fun _ => True) (en_toInt (en_rest rfl)) (en_evi (Ψ := (· = m)) (evd_var rfl) rfl) (fun i j _ e => by rw [show j = m from e]; exact cdw hm nm) (fun _ _ _ _ => trivial)) fun H3 h3 => s_fin h3 (evd_var rfl) fun v H' a o => k _ v H' ⟨m, n, rfl, rfl, b⟩ a o
theorem en_take {m : Int} (h : ρ[i]? = some (.raw (.ref A.d))) (e : Evd K (DW K A) te ρ (.int m)) (hm : 0 < m) (nm : Nb 1000 m) : En K (DW K A) (tCall (spN K Pt Gt) [] E (tCons (tVar i) (tCons te tNil))) ρ (IsI fun n => 0 ≤ n ∧ n < m) :=
  isi_of (en_callN h (end_of (ed_cons e ed_nil) (Ψ := (· = [.int m])) rfl) fun _ q => ⟨m, hm, nm, q⟩) fun d ⟨ds, q, m', n, e1, e2, b⟩ => by
    rw [show ds = [.int m] from q] at e1
    cases e1
    exact ⟨n, e2, b⟩
/-! ### _law_pick -/
def Pp (ds : List PyData) : Prop := ∃ xs : List PyData, xs ≠ [] ∧ xs.length ≤ 100000 ∧ ds = [.list xs]
def Gp (ds : List PyData) (d : PyData) : Prop := ∃ xs : List PyData, ds = [.list xs] ∧ d ∈ xs
theorem ok_law_pick (T : Txt K mg) : FnOk P w K mg base CX0 3 T.a_law_pick T.d_law_pick ["draw", "some"] (spN K Pp Gp) := by
  refine drawOk T.F_law_pick sc_law_pick (by rintro _ ⟨m, _, _, rfl⟩; rfl) fun cdv A outer s H E hr => ⟨_, (pss_one (ps_ret (pe_ix (r := rIxL K) ix_list (kvl 1) (kcall (ok_law_take T) (hr.mono (by decide)) T.g__law_take T.k__law_take T.b__law_take (kpa (kvl 0) (kpa (kB (r := rLenQ K) call_len_seq T.n_len (kpa (kvl 1) pa_nil)) pa_nil))) (fun _ _ => rfl)))), ?_⟩
  rintro _ ⟨xs, hx, hl, rfl⟩ A ms σ H Q h k
  have h : At K (DW K A) ms ⟨H, H⟩ [.raw (.ref A.d), .dat (.list xs)] σ H := h
  have hp : 0 < xs.length := List.length_pos_iff.mpr hx
  refine s_retN h (en_ixL (evd_var rfl) (en_take rfl (ev_lenL (evd_var rfl)) (by omega) ((Nb.of (n := 17) (by omega) (Int.lt_of_le_of_lt (b := 100000) (by omega) (by decide))).mono (by decide))) fun n q => q) fun s v H' p a o => ?_
  obtain ⟨d, rfl, m⟩ := p
  exact k d v H' ⟨xs, rfl, m⟩ a o
theorem en_pick {Ψ : List PyData → Prop} (h : ρ[i]? = some (.raw (.ref A.d))) (e : En K (DW K A) te ρ (IsD fun d => ∃ xs, d = .list xs ∧ Ψ xs)) (hp : ∀ xs, Ψ xs → xs ≠ [] ∧ xs.length ≤ 100000) : En K (DW K A) (tCall (spN K Pp Gp) [] E (tCons (tVar i) (tCons te tNil))) ρ (IsD fun d => ∃ xs, Ψ xs ∧ d ∈ xs) :=
  (en_callN h (end_one e) fun ds ⟨d, q, xs, q2, ψ⟩ => ⟨xs, (hp xs ψ).1, (hp xs ψ).2, by rw [q, q2]⟩).isd fun d ⟨ds, ⟨d', q, xs, q2, ψ⟩, xs', e1, m⟩ => by
    rw [q, q2] at e1
    cases e1
    exact ⟨xs, ψ, m⟩
theorem drU_law_take (T : Txt K mg) : FnOk P w K mg base CX0 2 T.a_law_take T.d_law_take ["draw", "many"] (spU K (DW K) DrawA.d Pt Gt) := ok_law_take T
theorem drU_law_pick (T : Txt K mg) : FnOk P w K mg base CX0 3 T.a_law_pick T.d_law_pick ["draw", "some"] (spU K (DW K) DrawA.d Pp Gp) := ok_law_pick T
end
section
variable {P : Program} {w : World} {K : PySem.W.Frag} {mg : Str → Option Value} {base : Heap}
theorem ints_paired {α : Type} : ∀ {xs : List α} {es : List PyData}, Paired (fun _ d => ∃ z : Int, d = .int z) xs es → ∃ ns : List Int, es = ns.map .int
  | _, _, .nil => ⟨[], rfl⟩
  | _, _, .cons h t => by
    obtain ⟨z, rfl⟩ := h
    obtain ⟨ns, rfl⟩ := ints_paired t
    exact ⟨z :: ns, rfl⟩
def spBg (K : PySem.W.Frag) : Sp := fun vs H Q _ => ∃ (ms : List Addr) (ns : List Int), Live ms H ∧ DpAll K (cut ms H) vs [.list (ns.map .int)] ∧ ns.length ≤ 63 ∧
  ∀ (A : DrawA) (H' : Hp), At K W0 (A.d :: A.l :: ms) ⟨H, H⟩ [] [] H' → H A.d = none → H A.l = none → (DW K A).P H' → (DW K A).C (cut (A.d :: A.l :: ms) H') → Q (.ref A.d) H'
theorem merge_draw (A : DrawA) : mergeK [] [(.inr "large", .ref A.l), (.inr "rest", .int 0), (.inr "cells", .ref A.c), (.inr "turn", .int 0)] = drawKv A 0 0 := by
  simp [mergeK, putK, drawKv, str_lr, str_lc, str_lt, str_rc, str_rt, str_ct]
theorem ok_law_begun (T : Txt K mg) : FnOk P w K mg base CX0 1 T.a_law_begun T.d_law_begun ["script"] (spBg K) := by
  refine T.F_law_begun.ok sc_law_begun (fun vs H Q E h => ?_) fun cdv A outer s H vs Q E hr h => ?_
  · obtain ⟨ms, ns, _, o, _⟩ := h
    rw [dpa_len o]; rfl
  obtain ⟨ms, ns, lv, o, nl, k⟩ := h
  refine ⟨_, (pss_cons (ps_setLc (i := 1) (own := [("cell", 2)]) (g := (gName 2)) (by rfl) sc_law_begun.nd (by kernel_rfl) (by kernel_rfl) kswap (show PI _ _ _ (iList K _) from pi_list (kvl 0)) (blkOk_by (by kernel_rfl)) (fun _ _ _ _ _ => (kgl 2 sc_law_begun.nd)) (fun _ _ _ _ _ => (pts_one (pt_cmpR op_ge (kB call_abs T.n_abs (kpa (kvl 2) pa_nil)) (pe_op op_pow pe_int pe_int) (nomark _)))) (fun _ _ _ _ _ => (pe_op op_sub (kB call_abs T.n_abs (kpa (kvl 2) pa_nil)) (pe_op op_pow pe_int pe_int))))
      (pss_one (ps_ret (pe_disp (pps_cons pe_str (kvl 1) (pps_cons pe_str pe_int (pps_cons pe_str (pe_lc (own := [("cell", 2)]) (g := (gName 2)) (tt := tYes) (by rfl) sc_law_begun.nd (show PI _ _ _ (iList K _) from pi_list (kvl 0)) (blkOk_by (by kernel_rfl)) (fun _ _ _ _ _ => (kgl 2 sc_law_begun.nd)) (fun _ _ _ _ _ => pts_nil) (fun _ _ _ _ _ => (kB call_abs T.n_abs (kpa (kvl 2) pa_nil)))) (pps_cons pe_str pe_int pps_nil)))) (by rfl) (by rfl) (fun z => by cases z) (by decide))))), ?_⟩
  have h : At K W0 ms ⟨H, H⟩ [.dat (.list (ns.map .int)), .emp, .emp] (L2.start n_law_begun vs) H := at_start (N := n_law_begun) lv o
  have big : ∀ {ρ : List Sl}, Evd K W0 (tOp (rI CPow fun i j => .int (i ^ j.toNat)) (tC (.int 10)) (tC (.int 18))) ρ (.int (10 ^ 18)) := fun {ρ} => ev_pow ev_int ev_int ⟨by decide, by decide, by decide⟩
  refine q_own' h (ef_lc (xs := ns) (enc := PyData.int) (p := fun c => decide ((10 : Int) ^ 18 ≤ (if c < 0 then -c else c))) (Φ := fun _ d => ∃ z : Int, d = .int z) (S := fun c => [.dat (.list (ns.map .int)), .emp, .dat (.int c)]) (src_list (evd_var rfl)) (by omega)
    (fun x _ => ⟨[2], tg_name, by decide⟩) (fun x _ => et_test (ev_ge (ev_abs (evd_var rfl)) big)) fun x _ _ => en_of_ev (ev_sub (ev_abs (evd_var rfl)) big) ⟨_, rfl, _, rfl⟩) fun l ds σ1 H1 pr h1 o1 lm lb => ?_
  obtain ⟨lg, rfl⟩ := ints_paired pr
  dsimp only [List.set] at h1
  refine fun p hp => ?_
  have h2 := h1.own (o := .dK []) hp
  obtain ⟨p0, pm, _⟩ := h1.fresh hp
  have ec : Evd K W0 (tLc (iList K (tVar 0)) (gName 2) tYes (tCB rAbs1 (tCons (tVar 2) tNil)) [2]) [.dat (.list (ns.map .int)), .raw (.ref l), .emp] (.list (ns.map fun c => .int (if c < 0 then -c else c))) :=
    ev_lc0 (enc := PyData.int) (src_list (evd_var rfl)) (by omega) fun x _ => ev_abs (evd_var rfl)
  obtain ⟨wv, ew, ow⟩ := h2.env.get (i := 1) rfl (by intro q; cases q)
  obtain rfl : wv = .ref l := ow
  obtain ⟨vs1, el, dl⟩ := o1.val
  obtain rfl := dpa_ints dl
  have pl : p ≠ l := fun q => pm (by rw [q]; exact List.mem_cons_self)
  refine ⟨_, ew, ?_⟩
  dsimp only [tPairs, tC]
  refine ec (p :: l :: ms) ⟨H, H⟩ σ1 _ h2 _ fun v H3 h3 x3 o3 => ?_
  obtain ⟨c, rfl⟩ : ∃ c, v = .ref c := by cases o3 with | lst _ _ => exact ⟨_, rfl⟩
  let A2 : DrawA := ⟨p, l, c, ns.map fun c => if c < 0 then -c else c, pl⟩
  have ep : H3 p = some (.dK []) := x3 p _ (by intro z; cases z) upd_same
  have e3 : H3 l = some (.lst (lg.map .int)) := x3 l _ (by intro z; cases z) (by rw [upd_ne (Ne.symm pl)]; exact el)
  refine ⟨ep, [(.inr "large", .ref l), (.inr "rest", .int 0), (.inr "cells", .ref c), (.inr "turn", .int 0)], rfl, by show 4 ≤ 15; decide, ?_⟩
  rw [show mergeK [] _ = drawKv A2 0 0 from merge_draw A2]
  refine k A2 _ (h3.write List.mem_cons_self (by intro z; cases z) p0).nil p0 lb ⟨⟨lg, 0, 0⟩, upd_same, ?_⟩ ?_
  · rw [upd_ne (show A2.l ≠ p from Ne.symm pl)]
    exact e3
  · refine dp_mono (cut_put (.inl List.mem_cons_self)) _ _ ?_
    show Dp K _ _ (.list ((ns.map fun c => if c < 0 then -c else c).map .int))
    rw [List.map_map]
    exact o3
end
end Sc

/-! any list of data times an int: a new list. -/
namespace Fw
open PySem L2
open Sem (wp)
theorem list_mulW (l : Addr) (items : Array Value) (n : Nat) (x : Int) (u : Tok) (dd : Option Addr) (sl : Array (Option Value)) (hc0 : ¬(!Builtin.List.listFitsIndex x) = true) (hc1 : ¬items.size * x.toNat > (2 ^ 63 - 1) / 8) (hc2 : ¬Builtin.List.listTooLong (items.size * x.toNat) = true) :
    Meets (Builtin.«list.__mul__» ⟨[.ref l, .int x u], []⟩) (fun _ R s => s.heap.get? l = some { cls := .type "list", dict := dd, data := .seq items n, slots := sl } ∧ R (.ok (.ret (Value.ref s.heap.objs.size))) { s with heap := s.heap.push { cls := Value.type "list", data := Data.seq (List.foldl (fun x1 x2 => x1 ++ x2) #[] (List.replicate (if items.isEmpty = true then 0 else x.toNat) items)) }, toks := s.toks }) :=
  .of_wp fun prog w A R s h => by
    obtain ⟨hp, g, d, tk, os⟩ := s; obtain ⟨hl, h⟩ := h
    have hsz := AutoListH.joined_fits hc2
    wp_walk; refine wpAny_ite_false (decide_eq_false (Nat.not_lt.mpr hsz)) ?_; wp_walk; exact ⟨_, rfl, h⟩
theorem int_rmulW (a : Int) (t : Tok) (l : Addr) (items : Array Value) (n : Nat) (dd : Option Addr) (sl : Array (Option Value)) :
    Meets (Builtin.«int.__rmul__» ⟨[.int a t, .ref l], []⟩) (fun _ R s => s.heap.get? l = some { cls := .type "list", dict := dd, data := .seq items n, slots := sl } ∧ R (.ok (.ret Value.notImplemented)) s) :=
  .of_wp fun prog w A R s h => by obtain ⟨hp, g, d, tk, os⟩ := s; obtain ⟨hl, h⟩ := h; wp_walk; exact ⟨_, rfl, h⟩
def rRepL (K : PySem.W.Frag) : R2 := fun x y H Q => ∃ l k xs, x = .ref l ∧ y = .int k ∧ SqL K H l xs ∧ -(2 ^ 63) ≤ k ∧ k < 2 ^ 63 ∧ xs.length * k.toNat ≤ sizeLine ∧
  ∀ p, H p = none → Q (.ref p) (upd H p (.lst (List.replicate k.toNat xs).flatten))
section
variable {X : Cx}
theorem op_repL : OpR X (binaryOp .Mult) (rRepL X.K) := by
  intro pins s σ H x y v u Q I rx ry h
  obtain ⟨l, k, xs, rfl, rfl, hH, h1, h2, hz, q⟩ := h
  cases rx
  obtain ⟨t, rfl⟩ := ry
  obtain ⟨its, r, ⟨⟨c1, d1, t1, sl1⟩, n, e, k1, _, w1⟩, _⟩ := I.list hH
  simp only at k1 w1
  subst k1 w1
  have hl := r.length
  have hlen : its.toArray.size * k.toNat ≤ sizeLine := by rw [List.size_toArray, ← hl]; exact hz
  have hcap : ¬ its.toArray.size * k.toNat > (2 ^ 63 - 1) / 8 := by
    have : (sizeLine : Nat) ≤ (2 ^ 63 - 1) / 8 := by decide
    omega
  have hfit : ¬ (!Builtin.List.listFitsIndex k) = true := by
    rw [fitsIndex_both h1 h2]
    exact Bool.false_ne_true
  have hlong : ¬ Builtin.List.listTooLong (its.toArray.size * k.toNat) = true := by
    rw [notLongL hlen]
    exact Bool.false_ne_true
  have hnew : List.foldl (fun x1 x2 => x1 ++ x2) #[] (List.replicate (if its.toArray.isEmpty = true then 0 else k.toNat) its.toArray) = (List.replicate k.toNat its).flatten.toArray := by
    have f0 : ∀ m : Nat, List.foldl (fun x1 x2 => x1 ++ x2) #[] (List.replicate m its.toArray) = (List.replicate m its).flatten.toArray := fun m => by
      have := foldl_rep its m []
      rw [List.nil_append] at this
      exact this
    rw [f0]
    cases its with
    | nil => simp
    | cons a r' => rw [if_neg (by simp)]
  refine wpAny_binaryOp_repeat_ref (T := "list") (U := "int") (by decide) ⟨_, e, rfl⟩ (fun s' => typeIs_int s' k t) noFill_list_mul F.fills_int_mul F.slot_int_rmul repeat_list F.slot_int_index.lookup
    (call_meets F.slot_int_rmul (typeIs_int s k t) F.entry_int_rmul (F.args_int_rmul_2 _ _) (int_rmulW k t l its.toArray n d1 sl1)
      ⟨e, rfl, ⟨_, e, rfl⟩, call_meets F.slot_list_mul ⟨_, e, rfl⟩ F.entry_list_mul (F.args_list_mul_2 _ _) (list_mulW l its.toArray n k t d1 sl1 hfit hcap hlong) ⟨e, ?_⟩⟩)
  rw [hnew]
  exact ⟨.ref _, _, I.lnew (t' := s.toks) (r.rep k.toNat) (by rw [PyProof.Rows.lm_len_rep_flat, Nat.mul_comm]; exact hz), rfl, q _ I.fresh⟩
end
end Fw
namespace Wp
open PySem L2 Fw
section
variable {K : PySem.W.Frag} {W : Wd} {r : Addr} {ta tb : TE} {fa fb : FE}
def repLK (x y : PyData) (Φ : PyData → Prop) : Prop := lstK x fun ds => intK y fun n => (0 ≤ n ∧ n ≤ 100000 ∧ ds.length * n.toNat ≤ 100000) ∧ Φ (.list (List.replicate n.toNat ds).flatten)
theorem dpa_repF {H : Hp} {vs : List V} {ds : List PyData} (h : DpAll K H vs ds) : ∀ n : Nat, DpAll K H (List.replicate n vs).flatten (List.replicate n ds).flatten
  | 0 => .nil
  | n + 1 => by
    rw [List.replicate_succ, List.replicate_succ, List.flatten_cons, List.flatten_cons]
    exact dpa_app h (dpa_repF h n)
theorem ev_repL {ρ : List Sl} {ds : List PyData} {n : Int} (ha : Evd K W ta ρ (.list ds)) (hb : Evd K W tb ρ (.int n)) (h0 : 0 ≤ n) (h1 : n ≤ 100000) (hz : ds.length * n.toNat ≤ 100000) : Evd K W (tOp (rRepL K) ta tb) ρ (.list (List.replicate n.toNat ds).flatten) := ev_op ha hb fun ms H x y lv hx hy Q q => by
  cases hy
  cases hx with
  | lst sx dx => exact ⟨_, n, _, rfl, rfl, sql_mono cut_le sx, by omega, by omega, by rw [dpa_len dx]; exact Nat.le_trans hz (by decide), fun p hp => q _ _ (same_put hp) (Sl.new_lst lv hp (dpa_repF dx _))⟩
/-- xs * n -/
theorem je_repL (ha : JE K W r ta fa) (hb : JE K W r tb fb) : JE K W r (tOp (rRepL K) ta tb) (fun env Φ => fa env fun x => fb env fun y => repLK x y Φ) := je_lift2 (F := fun a b => tOp (rRepL K) a b) ha hb (fun σ H Q h => h) fun x y Φ h => by
  obtain ⟨ds, rfl, h⟩ := lstK_of h
  obtain ⟨n, rfl, ⟨h0, h1, hz⟩, h⟩ := intK_of h
  exact ⟨_, h, fun W' a b ρ e1 e2 => ev_repL e1 e2 h0 h1 hz⟩
/-- xs + ys, a list of one's own -/
theorem jf_cat (ha : JE K W r ta fa) (hb : JE K W r tb fb) : JF K W r (tOp (rCatD K) ta tb) (fun env Φ => fa env fun x => fb env fun y => lstK x fun ds => lstK y fun es => ds.length + es.length ≤ 100000 ∧ Φ (ds ++ es)) := fun env Φ φ ms B σ H g Q q =>
  ha env _ φ ms B σ H g _ fun s x H1 ψ g1 x1 o1 => by
    obtain ⟨dx, rfl, ψ⟩ := ψ
    refine hb env _ ψ ms B σ H1 g1 _ fun s2 y H2 ψ2 g2 x2 o2 => ?_
    obtain ⟨dy, rfl, ψ2⟩ := ψ2
    obtain ⟨ds, rfl, ψ3⟩ := lstK_of ψ2
    obtain ⟨es, rfl, hz, ψ4⟩ := lstK_of ψ3
    have o1 := dp_mono (x2.cut g1.sub) _ _ o1
    cases o1 with
    | lst sx dx =>
      cases o2 with
      | lst sy dy =>
        refine ⟨_, _, _, _, rfl, rfl, sql_mono cut_le sx, sql_mono cut_le sy, by rw [dpa_len dx, dpa_len dy]; exact Nat.le_trans hz (by decide), fun p hp => ?_⟩
        have hw := (g2.fresh hp).2.2
        have hp0 : H p = none := by
          cases z : H p with
          | none => rfl
          | some o => rw [(x1.trans x2) p o hw z] at hp; cases hp
        exact q (ds ++ es) p _ _ ψ4 (g2.same (same_put hp)) ((x1.trans x2).trans (.of_same (same_put hp))) hp0 upd_same (dpa_mono ((cut_new hp).trans cut_drop) _ _ (dpa_app dx dy))
end
end Wp

set_option pp.maxSteps 400
/-! k68, 7: drawn bids, fields, formulas. -/
namespace Sc
open PySem L2 Fw Wp Cd
open PyProof.Rows (envOfC)
local macro_rules | `(tactic| rfl') => `(tactic| conv => whnf)
theorem take_ok {n : Int} {Ψ : PyData → Prop} (h0 : 0 < n) (h1 : n ≤ 1000000000) (k : ∀ z : Int, 0 ≤ z → z < n → Ψ (.int z)) : Pt [.int n] ∧ ∀ d, Gt [.int n] d → Ψ d :=
  ⟨⟨n, h0, (Nb.of (n := 30) (by omega) (Int.lt_of_le_of_lt h1 (by decide))).mono (by decide), rfl⟩, fun d ⟨m, z, e1, e2, z0, z1⟩ => by subst e2; cases e1; exact k z z0 z1⟩
theorem pick_ok {xs : List PyData} {Ψ : PyData → Prop} (h0 : xs ≠ []) (h1 : xs.length ≤ 100000) (k : ∀ d ∈ xs, Ψ d) : Pp [.list xs] ∧ ∀ d, Gp [.list xs] d → Ψ d :=
  ⟨⟨xs, h0, h1, rfl⟩, fun d ⟨ys, e, m⟩ => by cases e; exact k d m⟩
abbrev spD68 (K : PySem.W.Frag) := spU K (DW K) DrawA.d
theorem str_ok {s : Str} (h : (PyData.str s).canLay0 = true) {n : Nat} : Shp n (.str s) := (shp_str h).mono (Nat.zero_le _)
theorem shp_bid (b : Bid) : Shp 2 b.d := shp_tuple (n := 1) fun d hd => by
  simp only [List.mem_cons, List.not_mem_nil, or_false] at hd
  rcases hd with rfl | rfl | rfl
  · exact str_ok (by decide +kernel)
  · exact (shp_int _).mono (by decide)
  · exact shp_tuple (n := 0) fun d hd => by
      obtain ⟨_, _, rfl⟩ := List.mem_map.mp hd
      exact shp_int _
theorem shp_field (fl : List Bid) : SeqAt.shaped (.list (fl.map Bid.d)) = true := (shp_list (n := 2) fun d hd => by
  obtain ⟨b, _, rfl⟩ := List.mem_map.mp hd
  exact shp_bid b).shaped (by decide)
theorem nol_ints (ns : List Int) : noLists (ns.map .int) = true := noLists_of fun d hd => by
  obtain ⟨_, _, rfl⟩ := List.mem_map.mp hd
  rfl
theorem nol_bid (b : Bid) : noList b.d = true := by
  show (noList (.str "bid") && (noList (.int b.price) && (noLists (b.marks.map .int) && true))) = true
  rw [nol_ints]
  rfl
theorem bid_ok {b : Bid} (h : b.Ok) : bidB b.d = true := by
  show (isBid (.str "bid") && (decide ((b.marks.map PyData.int).length = 4) && (whI (.int b.price) 1 1000000000 && (b.marks.map PyData.int).all fun m => whI m 0 100))) = true
  rw [List.length_map, decide_eq_true h.len, whI_to h.lo h.hi]
  rw [show isBid (.str "bid") = true from by decide +kernel, Bool.true_and, Bool.true_and, Bool.true_and, List.all_eq_true]
  intro d hd
  obtain ⟨m, hm, rfl⟩ := List.mem_map.mp hd
  exact whI_to (h.mkb m hm).1 (h.mkb m hm).2
section
variable {P : Program} {w : World} {K : PySem.W.Frag} {mg : Str → Option Value} {base : Heap}
def Pnil (ds : List PyData) : Prop := ds = []
def Gpr (_ : List PyData) (d : PyData) : Prop := ∃ z : Int, d = .int z ∧ 1 ≤ z ∧ z ≤ 1000000000
theorem ok_law_price (T : Txt K mg) : FnOk P w K mg base CX0 4 T.a_law_price T.d_law_price ["draw"] (spD68 K Pnil Gpr) := by
  refine drawW T.F_law_price sc_law_price (by rintro _ rfl; rfl) fun cdv A outer s H E hr => ⟨_, (pss_one (ps_ret (kcall (drU_law_pick T) (hr.mono (by decide)) T.g__law_pick T.k__law_pick T.b__law_pick (kpa (kvl 0) (kpa (pe_lst (kpa (pe_op op_add pe_int (kcall (drU_law_take T) (hr.mono (by decide)) T.g__law_take T.k__law_take T.b__law_take (kpa (kvl 0) (kpa pe_int pa_nil)))) (kpa (pe_op op_add pe_int (kcall (drU_law_take T) (hr.mono (by decide)) T.g__law_take T.k__law_take T.b__law_take (kpa (kvl 0) (kpa pe_int pa_nil)))) (kpa (pe_op op_add pe_int (kcall (drU_law_take T) (hr.mono (by decide)) T.g__law_take T.k__law_take T.b__law_take (kpa (kvl 0) (kpa (pe_op op_pow pe_int pe_int) pa_nil)))) (kpa (pe_op op_sub (pe_op op_pow pe_int pe_int) (kcall (drU_law_take T) (hr.mono (by decide)) T.g__law_take T.k__law_take T.b__law_take (kpa (kvl 0) (kpa pe_int pa_nil)))) pa_nil))))) pa_nil))))), fun A => ⟨_, (jc_ret (je_callU 0 (ja_cons (je_lst (ja_cons (je_add je_int (je_callU 0 (ja_cons je_int ja_nil))) (ja_cons (je_add je_int (je_callU 0 (ja_cons je_int ja_nil))) (ja_cons (je_add je_int (je_callU 0 (ja_cons (je_pow je_int je_int) ja_nil))) (ja_cons (je_sub (je_pow je_int je_int) (je_callU 0 (ja_cons je_int ja_nil))) ja_nil))))) ja_nil))), ?_⟩⟩
  rintro _ rfl
  rfl'
  refine take_ok (by decide) (by decide) fun a a0 a9 => ?_
  rfl'
  refine take_ok (by decide) (by decide) fun b b0 b9 => ?_
  rfl'
  refine ⟨⟨by decide, by decide, by decide⟩, ?_⟩
  show Pt [.int 1000000000] ∧ _
  refine take_ok (by decide) (by decide) fun c c0 c9 => ?_
  rfl'
  refine ⟨⟨by decide, by decide, by decide⟩, ?_⟩
  rfl'
  refine take_ok (by decide) (by decide) fun d d0 d9 => ?_
  rfl'
  show Pp [.list [.int (1 + a), .int (100 + b), .int (1 + c), .int (1000000000 - d)]] ∧ _
  refine pick_ok (by simp) (by show 4 ≤ 100000; decide) fun y hy => ?_
  simp only [List.mem_cons, List.not_mem_nil, or_false] at hy
  rcases hy with rfl | rfl | rfl | rfl
  · exact ⟨_, rfl, by omega, by omega⟩
  · exact ⟨_, rfl, by omega, by omega⟩
  · exact ⟨_, rfl, by omega, by omega⟩
  · exact ⟨_, rfl, by omega, by omega⟩
def Gbi (_ : List PyData) (d : PyData) : Prop := ∃ b : Bid, b.Ok ∧ d = b.d
theorem ok_law_bid (T : Txt K mg) : FnOk P w K mg base CX0 5 T.a_law_bid T.d_law_bid ["draw"] (spD68 K Pnil Gbi) := by
  refine drawW T.F_law_bid sc_law_bid (by rintro _ rfl; rfl) fun cdv A outer s H E hr => ⟨_, (pss_cons (ksc 1 sc_law_bid.nd (kcall (drU_law_pick T) (hr.mono (by decide)) T.g__law_pick T.k__law_pick T.b__law_pick (kpa (kvc 0) (kpa (pe_lst (kpa pe_int (kpa pe_int (kpa pe_int pa_nil)))) pa_nil))))
      (pss_one (ps_ret (pe_tup (kpa pe_str (kpa (kcall (ok_law_price T) (hr.mono (by decide)) T.g__law_price T.k__law_price T.b__law_price (kpa (kvc 0) pa_nil)) (kpa (kTy (r := rTupOf K) call_tuple_of T.n_tuple (kpa (pe_lc (own := [("k", 2)]) (g := (gName 2)) (tt := tYes) (by rfl) sc_law_bid.nd (krg1 T.n_range (kpa pe_int pa_nil)) (blkOk_by (by kernel_rfl)) (fun _ _ _ _ _ => (kgl 2 sc_law_bid.nd)) (fun _ _ _ _ _ => pts_nil) (fun _ _ _ _ _ => (kcall (drU_law_take T) (hr.mono (by decide)) T.g__law_take T.k__law_take T.b__law_take (kpa (kvc 0) (kpa (kvc 1) pa_nil))))) pa_nil)) pa_nil))))))), fun A => ⟨_, (jc_seq (jc_asg 1 (je_callU 0 (ja_cons (je_lst (ja_cons je_int (ja_cons je_int (ja_cons je_int ja_nil)))) ja_nil)))
      (jc_ret (je_tup (ja_cons je_str (ja_cons (je_callU 0 ja_nil) (ja_cons (je_tupOf (ja_cons (je_of_jf (jf_lc (ji_rng1 (ja_cons je_int ja_nil)) (jg_name 2) jt_yes (je_callU 0 (ja_cons (je_var 1) ja_nil)) (by decide))) ja_nil)) ja_nil)))))), ?_⟩⟩
  rintro _ rfl
  rfl'
  refine pick_ok (by simp) (by show 3 ≤ 100000; decide) fun m hm => ?_
  obtain ⟨m, rfl, m0, m1⟩ : ∃ z : Int, m = .int z ∧ 0 < z ∧ z ≤ 101 := by
    simp only [List.mem_cons, List.not_mem_nil, or_false] at hm
    rcases hm with rfl | rfl | rfl <;> exact ⟨_, rfl, by decide, by decide⟩
  rfl'
  refine ⟨rfl, ?_⟩
  rintro _ ⟨z, rfl, z1, z2⟩
  rfl'
  refine ⟨by decide, by rw [rangeD_len]; decide, ?_⟩
  refine lcW_of (fun i acc => ∃ L : List Int, acc = L.map .int ∧ L.length = i ∧ ∀ y ∈ L, 0 ≤ y ∧ y ≤ 100) ⟨[], rfl, rfl, fun y hy => nomatch hy⟩ (fun j d acc hj ⟨L, al, ln, ac⟩ A C k1 k0 => ?_) fun acc ⟨L, al, ln, ac⟩ => ?_
  · rfl'
    refine take_ok m0 (by omega) fun y y0 y4 => ?_
    refine k1 _ ⟨L ++ [y], by rw [al, List.map_append]; rfl, by rw [List.length_append, ln]; rfl, fun q hq => ?_⟩
    rcases List.mem_append.mp hq with e | e
    · exact ac q e
    · rw [List.mem_singleton.mp e]
      omega
  subst al
  rw [rangeD_len] at ln
  rfl'
  exact ⟨⟨z, L⟩, ⟨z1, z2, ln, ac⟩, rfl⟩
def Pfl (ds : List PyData) : Prop := ∃ m : Int, 0 ≤ m ∧ m ≤ 130 ∧ ds = [.int m]
def Gfl (ds : List PyData) (d : PyData) : Prop := ∃ (m : Int) (fl : List Bid), ds = [.int m] ∧ (∀ b ∈ fl, b.Ok) ∧ fl.length = m.toNat ∧ d = .list (fl.map Bid.d)
theorem ok_law_field (T : Txt K mg) : FnOk P w K mg base CX0 6 T.a_law_field T.d_law_field ["draw", "many"] (spD68 K Pfl Gfl) := by
  refine drawW T.F_law_field sc_law_field (by rintro _ ⟨_, _, _, rfl⟩; rfl) fun cdv A outer s H E hr => ⟨_, (pss_cons (ksl 2 sc_law_field.nd (pe_lst pa_nil))
      (pss_cons (ps_for PassesOwn.never rfl (krg1 T.n_range (kpa (kvl 1) pa_nil)) (kgl 3 sc_law_field.nd) (pss_one (kexpr (show PE _ _ (tBM K "list" _ _ _) from kmeth PySem.F.plainAttrs_list PySem.F.slot_list_append PySem.F.type_list_append mt_append (kvl 2) (kpa (pe_ifExp (PW.pt (pw_and (pt_cmpR (r := rNeD K) (op_neD hr.units) (kvl 2) (pe_lst pa_nil) (nomark _)) (pw_and1 (pt_cmpR op_eq (kcall (drU_law_take T) (hr.mono (by decide)) T.g__law_take T.k__law_take T.b__law_take (kpa (kvl 0) (kpa pe_int pa_nil))) pe_int (nomark _))))) (kcall (drU_law_pick T) (hr.mono (by decide)) T.g__law_pick T.k__law_pick T.b__law_pick (kpa (kvl 0) (kpa (kvl 2) pa_nil))) (kcall (ok_law_bid T) (hr.mono (by decide)) T.g__law_bid T.k__law_bid T.b__law_bid (kpa (kvl 0) pa_nil))) pa_nil)))))
      (pss_one (ps_ret (kvl 2))))), fun A => ⟨_, (jc_seq (jc_own 2 (jf_lst ja_nil))
      (jc_seq (jc_for (ji_rng1 (ja_cons (je_var 1) ja_nil)) (jg_name 3) (jc_appL 2 (je_if (jt_and (jt_test (je_neD (je_var 2) (je_lst ja_nil))) (jt_test (je_eqS (je_callU 0 (ja_cons je_int ja_nil)) je_int))) (je_callU 0 (ja_cons (je_var 2) ja_nil)) (je_callU 0 ja_nil))))
      (jc_ret (je_var 2)))), ?_⟩⟩
  rintro _ ⟨m, m0, m1, rfl⟩
  rfl'
  refine ⟨⟨by omega, by omega⟩, ?_⟩
  refine forW_of (fun j e => ∃ (fl : List Bid) (l : Va), e = [.src, .dat (.int m), .own (fl.map Bid.d), l] ∧ (∀ b ∈ fl, b.Ok) ∧ fl.length = j) ⟨[], .emp, rfl, (fun b hb => nomatch hb), rfl⟩ ?_ ?_
  · rintro j d hj _ ⟨fl, l, rfl, hf, lf⟩ Z hZ
    have jm : j < m.toNat := by
      have := (List.getElem?_eq_some_iff.mp hj).1
      rwa [rangeD_len] at this
    have add : ∀ b : Bid, b.Ok → noList b.d = true ∧ (fl.map Bid.d).length < 100000 ∧ Z [.src, .dat (.int m), .own (fl.map Bid.d ++ [b.d]), .dat d] := fun b hb =>
      ⟨nol_bid b, by rw [List.length_map]; omega, hZ _ ⟨fl ++ [b], _, by rw [List.map_append]; rfl, fun x hx => (List.mem_append.mp hx).elim (hf x) fun e => by rw [List.mem_singleton.mp e]; exact hb, by rw [List.length_append, lf]; rfl⟩⟩
    rfl'
    refine ⟨⟨shp_field fl, (shp_list (ds := []) (n := 0) (fun _ h => nomatch h)).shaped (by decide)⟩, ?_⟩
    cases fl with
    | nil =>
      rfl'
      refine ⟨rfl, ?_⟩
      rintro _ ⟨b, hb, rfl⟩
      exact add b hb
    | cons b0 fl =>
      have e : PyData.eqv (.list ((b0 :: fl).map Bid.d)) (.list []) = false := rfl
      rw [e]
      rfl'
      refine take_ok (by decide) (by decide) fun a a0 a9 => ?_
      rfl'
      refine ifK_of (fun q => ?_) fun q => ?_
      · rfl'
        refine pick_ok (by simp) (by rw [List.length_map]; omega) fun d hd => ?_
        obtain ⟨b, hb, rfl⟩ := List.mem_map.mp hd
        exact add b (hf b hb)
      · rfl'
        refine ⟨rfl, ?_⟩
        rintro _ ⟨b, hb, rfl⟩
        exact add b hb
  · rintro _ ⟨fl, l, rfl, hf, lf⟩
    rw [rangeD_len] at lf
    rfl'
    exact ⟨m, fl, rfl, hf, lf, rfl⟩
end
end Sc

set_option pp.maxSteps 400
/-! k68, 8: drawn formulas. -/
namespace Sc
open PySem L2 Fw Wp Cd
open PyProof.Rows (envOfC)
local macro_rules | `(tactic| rfl') => `(tactic| conv => whnf)
theorem nol_tm (t : Tm) : noList t.d = true := by cases t <;> rfl
def WdOk (x : Str) : Prop := x = "mark" ∨ ∃ r : Rel, x = r.s
def KindOk (d : PyData) : Prop := ∃ ws : List Str, d = .list (ws.map .str) ∧ ws ≠ [] ∧ ws.length ≤ 4 ∧ ∀ x ∈ ws, WdOk x
def kindsD : List PyData := [.list [.str "mark", .str "low", .str "range", .str "mean"], .list [.str "mark", .str "low", .str "range"], .list [.str "mark", .str "range"], .list [.str "mark", .str "low"], .list [.str "mark"], .list [.str "low", .str "range", .str "mean"]]
theorem wd_mark : WdOk "mark" := .inl rfl
theorem wd_low : WdOk "low" := .inr ⟨.low, rfl⟩
theorem wd_range : WdOk "range" := .inr ⟨.range, rfl⟩
theorem wd_mean : WdOk "mean" := .inr ⟨.mean, rfl⟩
theorem kinds_ok : ∀ d ∈ kindsD, KindOk d := fun d hd => by
  simp only [kindsD, List.mem_cons, List.not_mem_nil, or_false] at hd
  rcases hd with rfl | rfl | rfl | rfl | rfl | rfl
  · exact ⟨["mark", "low", "range", "mean"], rfl, by simp, by decide, by simp [wd_mark, wd_low, wd_range, wd_mean]⟩
  · exact ⟨["mark", "low", "range"], rfl, by simp, by decide, by simp [wd_mark, wd_low, wd_range, wd_mean]⟩
  · exact ⟨["mark", "range"], rfl, by simp, by decide, by simp [wd_mark, wd_low, wd_range, wd_mean]⟩
  · exact ⟨["mark", "low"], rfl, by simp, by decide, by simp [wd_mark, wd_low, wd_range, wd_mean]⟩
  · exact ⟨["mark"], rfl, by simp, by decide, by simp [wd_mark, wd_low, wd_range, wd_mean]⟩
  · exact ⟨["low", "range", "mean"], rfl, by simp, by decide, by simp [wd_mark, wd_low, wd_range, wd_mean]⟩
theorem shp_tm (t : Tm) : Shp 1 t.d := by
  cases t with
  | mark k w =>
    exact shp_tuple (n := 0) fun d hd => by
      simp only [List.mem_cons, List.not_mem_nil, or_false] at hd
      rcases hd with rfl | rfl | rfl
      · exact str_ok (by decide +kernel)
      · exact shp_int _
      · exact shp_int _
  | rel r w =>
    exact shp_tuple (n := 0) fun d hd => by
      simp only [List.mem_cons, List.not_mem_nil, or_false] at hd
      rcases hd with rfl | rfl
      · exact str_ok (by cases r <;> decide +kernel)
      · exact shp_int _
section
variable {P : Program} {w : World} {K : PySem.W.Frag} {mg : Str → Option Value} {base : Heap}
def Gfm (_ : List PyData) (d : PyData) : Prop := ∃ f : List Tm, FormOk f ∧ d = formD f
theorem ok_law_formula (T : Txt K mg) : FnOk P w K mg base CX0 4 T.a_law_formula T.d_law_formula ["draw"] (spD68 K Pnil Gfm) := by
  refine drawW T.F_law_formula sc_law_formula (by rintro _ rfl; rfl) fun cdv A outer s H E hr => ⟨_, (pss_cons (ksl 1 sc_law_formula.nd (kcall (drU_law_pick T) (hr.mono (by decide)) T.g__law_pick T.k__law_pick T.b__law_pick (kpa (kvl 0) (kpa (pe_lst (kpa (pe_lst (kpa pe_str (kpa pe_str (kpa pe_str (kpa pe_str pa_nil))))) (kpa (pe_lst (kpa pe_str (kpa pe_str (kpa pe_str pa_nil)))) (kpa (pe_lst (kpa pe_str (kpa pe_str pa_nil))) (kpa (pe_lst (kpa pe_str (kpa pe_str pa_nil))) (kpa (pe_lst (kpa pe_str pa_nil)) (kpa (pe_lst (kpa pe_str (kpa pe_str (kpa pe_str pa_nil)))) pa_nil))))))) pa_nil))))
      (pss_cons (kpar (i := 2) (j := 3) (by rfl) sc_law_formula.nd (by decide) (kpa (kcall (drU_law_pick T) (hr.mono (by decide)) T.g__law_pick T.k__law_pick T.b__law_pick (kpa (kvl 0) (kpa (pe_lst (kpa pe_int (kpa pe_int (kpa pe_int pa_nil)))) pa_nil))) (kpa (pe_lst pa_nil) pa_nil)))
      (pss_cons (ps_for PassesOwn.never rfl (krg1 T.n_range (kpa (kcall (drU_law_take T) (hr.mono (by decide)) T.g__law_take T.k__law_take T.b__law_take (kpa (kvl 0) (kpa pe_int pa_nil))) pa_nil)) (kgl 4 sc_law_formula.nd) (pss_cons (kpar (i := 5) (j := 6) (by rfl) sc_law_formula.nd (by decide) (kpa (kcall (drU_law_pick T) (hr.mono (by decide)) T.g__law_pick T.k__law_pick T.b__law_pick (kpa (kvl 0) (kpa (kvl 1) pa_nil))) (kpa (pe_op op_add pe_int (kcall (drU_law_take T) (hr.mono (by decide)) T.g__law_take T.k__law_take T.b__law_take (kpa (kvl 0) (kpa (kvl 2) pa_nil)))) pa_nil)))
      (pss_one (kexpr (show PE _ _ (tBM K "list" _ _ _) from kmeth PySem.F.plainAttrs_list PySem.F.slot_list_append PySem.F.type_list_append mt_append (kvl 3) (kpa (pe_ifExp (pt_cmpR op_eq (kvl 5) pe_str (nomark _)) (pe_tup (kpa (kvl 5) (kpa (kcall (drU_law_take T) (hr.mono (by decide)) T.g__law_take T.k__law_take T.b__law_take (kpa (kvl 0) (kpa pe_int pa_nil))) (kpa (kvl 6) pa_nil)))) (pe_tup (kpa (kvl 5) (kpa (kvl 6) pa_nil)))) pa_nil))))))
      (pss_one (ps_ret (kTy (r := rTupOf K) call_tuple_of T.n_tuple (kpa (kvl 3) pa_nil))))))), fun A => ⟨_, (jc_seq (jc_asg 1 (je_callU 0 (ja_cons (je_lst (ja_cons (je_lst (ja_cons je_str (ja_cons je_str (ja_cons je_str (ja_cons je_str ja_nil))))) (ja_cons (je_lst (ja_cons je_str (ja_cons je_str (ja_cons je_str ja_nil)))) (ja_cons (je_lst (ja_cons je_str (ja_cons je_str ja_nil))) (ja_cons (je_lst (ja_cons je_str (ja_cons je_str ja_nil))) (ja_cons (je_lst (ja_cons je_str ja_nil)) (ja_cons (je_lst (ja_cons je_str (ja_cons je_str (ja_cons je_str ja_nil)))) ja_nil))))))) ja_nil)))
      (jc_seq (jc_parEF 2 3 (je_callU 0 (ja_cons (je_lst (ja_cons je_int (ja_cons je_int (ja_cons je_int ja_nil)))) ja_nil)) (jf_lst ja_nil))
      (jc_seq (jc_for (ji_rng1 (ja_cons (je_callU 0 (ja_cons je_int ja_nil)) ja_nil)) (jg_name 4) (jc_seq (jc_par 5 6 (ja_cons (je_callU 0 (ja_cons (je_var 1) ja_nil)) (ja_cons (je_add je_int (je_callU 0 (ja_cons (je_var 2) ja_nil))) ja_nil)))
      (jc_app 3 (je_if (jt_test (je_eqS (je_var 5) je_str)) (je_tup (ja_cons (je_var 5) (ja_cons (je_callU 0 (ja_cons je_int ja_nil)) (ja_cons (je_var 6) ja_nil)))) (je_tup (ja_cons (je_var 5) (ja_cons (je_var 6) ja_nil)))))))
      (jc_ret (je_tupOf (ja_cons (je_var 3) ja_nil)))))), ?_⟩⟩
  rintro _ rfl
  rfl'
  refine pick_ok (xs := kindsD) (by simp [kindsD]) (by show 6 ≤ 100000; decide) fun d hd => ?_
  obtain ⟨ws, rfl, wn, wl, wo⟩ := kinds_ok d hd
  rfl'
  refine pick_ok (by simp) (by show 3 ≤ 100000; decide) fun m hm => ?_
  obtain ⟨mo, rfl, mo0, mo1⟩ : ∃ z : Int, m = .int z ∧ 0 < z ∧ z ≤ 1000 := by
    simp only [List.mem_cons, List.not_mem_nil, or_false] at hm
    rcases hm with rfl | rfl | rfl <;> exact ⟨_, rfl, by decide, by decide⟩
  rfl'
  refine take_ok (by decide) (by decide) fun n n0 n7 => ?_
  rfl'
  refine ⟨⟨by omega, by omega⟩, ?_⟩
  refine forW_of (fun j e => ∃ (f : List Tm) (a b c : Va), e = [.src, .dat (.list (ws.map .str)), .dat (.int mo), .own (f.map Tm.d), a, b, c] ∧ (∀ t ∈ f, t.Ok) ∧ f.length = j) ⟨[], .emp, .emp, .emp, rfl, (fun t ht => nomatch ht), rfl⟩ ?_ ?_
  · rintro j d hj _ ⟨f, a, b, c, rfl, hf, lf⟩ Z hZ
    have jm : j < n.toNat := by
      have := (List.getElem?_eq_some_iff.mp hj).1
      rwa [rangeD_len] at this
    have add : ∀ (t : Tm) (b c : Va), t.Ok → noList t.d = true ∧ (f.map Tm.d).length < 100000 ∧ Z [.src, .dat (.list (ws.map .str)), .dat (.int mo), .own (f.map Tm.d ++ [t.d]), .dat d, b, c] := fun t b c ht =>
      ⟨nol_tm t, by rw [List.length_map]; omega, hZ _ ⟨f ++ [t], _, _, _, by rw [List.map_append]; rfl, fun x hx => (List.mem_append.mp hx).elim (hf x) fun e => by rw [List.mem_singleton.mp e]; exact ht, by rw [List.length_append, lf]; rfl⟩⟩
    rfl'
    refine pick_ok (by simpa using wn) (by rw [List.length_map]; omega) fun x0 hx0 => ?_
    obtain ⟨x, hx, rfl⟩ := List.mem_map.mp hx0
    have wx := wo x hx
    rfl'
    refine take_ok mo0 (by omega) fun y y0 y1 => ?_
    rfl'
    by_cases q : x = "mark"
    · subst q
      rfl'
      refine take_ok (by decide) (by decide) fun z z0 z4 => ?_
      rfl'
      obtain ⟨k, rfl⟩ : ∃ k : Nat, z = (k : Int) := ⟨z.toNat, by omega⟩
      exact (add (.mark k (1 + y)) _ _ ⟨by omega, by omega, by omega⟩).2
    · obtain ⟨r, rfl⟩ : ∃ r : Rel, x = r.s := wx.elim (fun e => absurd e q) id
      refine ifK_f (show ng false (decide (r.s = "mark")) = false from by rw [decide_eq_false (rel_nm r)]; rfl) ?_
      rfl'
      exact (add (.rel r (1 + y)) _ _ ⟨by omega, by omega⟩).2
  · rintro _ ⟨f, a, b, c, rfl, hf, lf⟩
    rw [rangeD_len] at lf
    rfl'
    exact ⟨f, ⟨by omega, hf⟩, rfl⟩
theorem price_log {b : Bid} (h : b.Ok) : b.price.natAbs.log2 < 1920 := by
  have h1 := h.lo
  have h2 := h.hi
  have h3 : b.price.natAbs < 2 ^ 30 := by omega
  exact (Nat.log2_lt (by omega)).mpr (Nat.lt_of_lt_of_le h3 (Nat.pow_le_pow_right (by decide) (by decide)))
theorem b3_a {a p m : PyData} (h : isBid a = false) : bidB (.tuple [a, p, m]) = false := by
  show (isBid a && (marks4 m && (whI p 1 1000000000 && marksAll m))) = false
  rw [h]
  rfl
theorem b3_w {a p m : PyData} (h : whI p 1 1000000000 = false) : bidB (.tuple [a, p, m]) = false := by
  show (isBid a && (marks4 m && (whI p 1 1000000000 && marksAll m))) = false
  rw [h]
  simp
theorem b3_4 {a p m : PyData} (h : marks4 m = false) : bidB (.tuple [a, p, m]) = false := by
  show (isBid a && (marks4 m && (whI p 1 1000000000 && marksAll m))) = false
  rw [h]
  simp
theorem b3_m {a p m : PyData} (h : marksAll m = false) : bidB (.tuple [a, p, m]) = false := by
  show (isBid a && (marks4 m && (whI p 1 1000000000 && marksAll m))) = false
  rw [h]
  simp
theorem b3_ok {p : Int} {m : List PyData} (h1 : 1 ≤ p) (h2 : p ≤ 1000000000) (h3 : m.length = 4) (h4 : ∀ x ∈ m, whI x 0 100 = true) : bidB (.tuple [.str "bid", .int p, .tuple m]) = true := by
  show (isBid (.str "bid") && (decide (m.length = 4) && (whI (.int p) 1 1000000000 && m.all fun m => whI m 0 100))) = true
  rw [decide_eq_true h3, whI_to h1 h2, List.all_eq_true.mpr h4]
  decide +kernel
/-- a bid, or what is near to one, and what is due -/
def Pbb (ds : List PyData) : Prop := ∃ b : Bid, b.Ok ∧ ds = [b.d]
def Gbb (_ : List PyData) (d : PyData) : Prop := ∃ (x : PyData) (y : Bool), d = .tuple [x, .bool y] ∧ bidB x = y
theorem ok_law_bent_bid (T : Txt K mg) : FnOk P w K mg base CX0 4 T.a_law_bent_bid T.d_law_bent_bid ["draw", "bid"] (spD68 K Pbb Gbb) := by
  refine drawW T.F_law_bent_bid sc_law_bent_bid (by rintro _ ⟨_, _, rfl⟩; rfl) fun cdv A outer s H E hr => ⟨_, (pss_cons (kasg (kvl 1) (kgt (n := 3) (by rfl) (kgs (kgl 2 sc_law_bent_bid.nd) (kgs (kgl 3 sc_law_bent_bid.nd) (kgs (kgl 4 sc_law_bent_bid.nd) pgs_nil)))))
      (pss_cons (ksl 5 sc_law_bent_bid.nd (kcall (drU_law_take T) (hr.mono (by decide)) T.g__law_take T.k__law_take T.b__law_take (kpa (kvl 0) (kpa pe_int pa_nil))))
      (pss_cons (ksl 6 sc_law_bent_bid.nd (kcall (drU_law_pick T) (hr.mono (by decide)) T.g__law_pick T.k__law_pick T.b__law_pick (kpa (kvl 0) (kpa (pe_lst (kpa (pe_un un_neg pe_int) (kpa pe_int (kpa pe_non (kpa pe_bl (kpa pe_str (kpa (pe_tup (kpa pe_int pa_nil)) pa_nil))))))) pa_nil))))
      (pss_cons (ksl 7 sc_law_bent_bid.nd (pe_lst (kpa pe_non (kpa pe_int (kpa pe_str (kpa (kTy (r := rLstOf K) call_list_of T.n_list (kpa (kvl 1) pa_nil)) (kpa (pe_slice (r := rSlA K) sl_tupA (kvl 1) po_none (po_some pe_int)) (kpa (pe_op (r := rCatA K) op_catA (kvl 1) (pe_tup (kpa pe_int pa_nil))) (kpa (pe_tup (kpa pe_str (kpa (kvl 3) (kpa (kvl 4) pa_nil)))) (kpa (pe_tup (kpa pe_non (kpa (kvl 3) (kpa (kvl 4) pa_nil)))) (kpa (pe_tup (kpa (kvl 2) (kpa pe_int (kpa (kvl 4) pa_nil)))) (kpa (pe_tup (kpa (kvl 2) (kpa (pe_op op_add (pe_op op_pow pe_int pe_int) pe_int) (kpa (kvl 4) pa_nil)))) pa_nil))))))))))))
      (pss_cons (ksl 7 sc_law_bent_bid.nd (pe_op (r := rCatD K) op_catD (kvl 7) (pe_lst (kpa (pe_tup (kpa (kvl 2) (kpa pe_bl (kpa (kvl 4) pa_nil)))) (kpa (pe_tup (kpa (kvl 2) (kpa (kTy call_str_int T.n_str (kpa (kvl 3) pa_nil)) (kpa (kvl 4) pa_nil)))) (kpa (pe_tup (kpa (kvl 2) (kpa (kvl 3) (kpa (kTy (r := rLstOf K) call_list_of T.n_list (kpa (kvl 4) pa_nil)) pa_nil)))) (kpa (pe_tup (kpa (kvl 2) (kpa (kvl 3) (kpa (pe_slice (r := rSlA K) sl_tupA (kvl 4) po_none (po_some pe_int)) pa_nil)))) (kpa (pe_tup (kpa (kvl 2) (kpa (kvl 3) (kpa (pe_op (r := rCatA K) op_catA (kvl 4) (pe_tup (kpa pe_int pa_nil))) pa_nil)))) pa_nil))))))))
      (pss_cons (kexpr (show PE _ _ (tBM K "list" _ _ _) from kmeth PySem.F.plainAttrs_list PySem.F.slot_list_append PySem.F.type_list_append mt_append (kvl 7) (kpa (pe_tup (kpa (kvl 2) (kpa (kvl 3) (kpa (pe_op (r := rCatA K) op_catA (pe_op (r := rCatA K) op_catA (pe_slice (r := rSlA K) sl_tupA (kvl 4) po_none (po_some (kvl 5))) (pe_tup (kpa (kvl 6) pa_nil))) (pe_slice (r := rSlA K) sl_tupA (kvl 4) (po_some (pe_op op_add (kvl 5) pe_int)) po_none)) pa_nil)))) pa_nil)))
      (pss_cons (ksl 8 sc_law_bent_bid.nd (pe_lst (kpa (pe_tup (kpa (kvl 2) (kpa (pe_op op_pow pe_int pe_int) (kpa (kvl 4) pa_nil)))) (kpa (pe_tup (kpa (kvl 2) (kpa pe_int (kpa (kvl 4) pa_nil)))) (kpa (pe_tup (kpa (kvl 2) (kpa (kvl 3) (kpa (pe_op (r := rCatA K) op_catA (pe_op (r := rCatA K) op_catA (pe_slice (r := rSlA K) sl_tupA (kvl 4) po_none (po_some (kvl 5))) (pe_tup (kpa pe_int pa_nil))) (pe_slice (r := rSlA K) sl_tupA (kvl 4) (po_some (pe_op op_add (kvl 5) pe_int)) po_none)) pa_nil)))) pa_nil)))))
      (pss_one (ps_ret (pe_ifExp (pt_cmpR op_gt (kcall (drU_law_take T) (hr.mono (by decide)) T.g__law_take T.k__law_take T.b__law_take (kpa (kvl 0) (kpa pe_int pa_nil))) pe_int (nomark _)) (pe_tup (kpa (kcall (drU_law_pick T) (hr.mono (by decide)) T.g__law_pick T.k__law_pick T.b__law_pick (kpa (kvl 0) (kpa (kvl 7) pa_nil))) (kpa pe_bl pa_nil))) (pe_tup (kpa (kcall (drU_law_pick T) (hr.mono (by decide)) T.g__law_pick T.k__law_pick T.b__law_pick (kpa (kvl 0) (kpa (kvl 8) pa_nil))) (kpa pe_bl pa_nil))))))))))))), fun A => ⟨_, (jc_seq (jc_tgt (je_var 1) (jg_tup (jgs_cons (jg_name 2) (jgs_cons (jg_name 3) (jgs_cons (jg_name 4) jgs_nil)))))
      (jc_seq (jc_asg 5 (je_callU 0 (ja_cons je_int ja_nil)))
      (jc_seq (jc_asg 6 (je_callU 0 (ja_cons (je_lst (ja_cons (je_neg je_int) (ja_cons je_int (ja_cons je_non (ja_cons je_bl (ja_cons je_str (ja_cons (je_tup (ja_cons je_int ja_nil)) ja_nil))))))) ja_nil)))
      (jc_seq (jc_asg 7 (je_lst (ja_cons je_non (ja_cons je_int (ja_cons je_str (ja_cons (je_lstOf (ja_cons (je_var 1) ja_nil)) (ja_cons (je_tillT (je_var 1) je_int) (ja_cons (je_catT (je_var 1) (je_tup (ja_cons je_int ja_nil))) (ja_cons (je_tup (ja_cons je_str (ja_cons (je_var 3) (ja_cons (je_var 4) ja_nil)))) (ja_cons (je_tup (ja_cons je_non (ja_cons (je_var 3) (ja_cons (je_var 4) ja_nil)))) (ja_cons (je_tup (ja_cons (je_var 2) (ja_cons je_int (ja_cons (je_var 4) ja_nil)))) (ja_cons (je_tup (ja_cons (je_var 2) (ja_cons (je_add (je_pow je_int je_int) je_int) (ja_cons (je_var 4) ja_nil)))) ja_nil))))))))))))
      (jc_seq (jc_own 7 (jf_cat (je_var 7) (je_lst (ja_cons (je_tup (ja_cons (je_var 2) (ja_cons je_bl (ja_cons (je_var 4) ja_nil)))) (ja_cons (je_tup (ja_cons (je_var 2) (ja_cons (je_strI (ja_cons (je_var 3) ja_nil)) (ja_cons (je_var 4) ja_nil)))) (ja_cons (je_tup (ja_cons (je_var 2) (ja_cons (je_var 3) (ja_cons (je_lstOf (ja_cons (je_var 4) ja_nil)) ja_nil)))) (ja_cons (je_tup (ja_cons (je_var 2) (ja_cons (je_var 3) (ja_cons (je_tillT (je_var 4) je_int) ja_nil)))) (ja_cons (je_tup (ja_cons (je_var 2) (ja_cons (je_var 3) (ja_cons (je_catT (je_var 4) (je_tup (ja_cons je_int ja_nil))) ja_nil)))) ja_nil))))))))
      (jc_seq (jc_app 7 (je_tup (ja_cons (je_var 2) (ja_cons (je_var 3) (ja_cons (je_catT (je_catT (je_tillT (je_var 4) (je_var 5)) (je_tup (ja_cons (je_var 6) ja_nil))) (je_fromT (je_var 4) (je_add (je_var 5) je_int))) ja_nil)))))
      (jc_seq (jc_asg 8 (je_lst (ja_cons (je_tup (ja_cons (je_var 2) (ja_cons (je_pow je_int je_int) (ja_cons (je_var 4) ja_nil)))) (ja_cons (je_tup (ja_cons (je_var 2) (ja_cons je_int (ja_cons (je_var 4) ja_nil)))) (ja_cons (je_tup (ja_cons (je_var 2) (ja_cons (je_var 3) (ja_cons (je_catT (je_catT (je_tillT (je_var 4) (je_var 5)) (je_tup (ja_cons je_int ja_nil))) (je_fromT (je_var 4) (je_add (je_var 5) je_int))) ja_nil)))) ja_nil)))))
      (jc_ret (je_if (jt_test (je_gt (je_callU 0 (ja_cons je_int ja_nil)) je_int)) (je_tup (ja_cons (je_callU 0 (ja_cons (je_var 7) ja_nil)) (ja_cons je_bl ja_nil))) (je_tup (ja_cons (je_callU 0 (ja_cons (je_var 8) ja_nil)) (ja_cons je_bl ja_nil)))))))))))), ?_⟩⟩
  rintro _ ⟨b, hb, rfl⟩
  have lm := hb.len
  rfl'
  refine take_ok (by decide) (by decide) fun a a0 a4 => ?_
  rfl'
  refine pick_ok (by simp) (by show 6 ≤ 100000; decide) fun o ho => ?_
  rfl'
  refine ⟨by decide, ?_⟩
  rfl'
  refine ⟨by show 3 + 1 ≤ 100000; decide, ?_⟩
  rfl'
  refine ⟨⟨by decide, by decide, by decide⟩, ?_⟩
  rfl'
  refine ⟨price_log hb, ?_⟩
  rfl'
  refine ⟨by decide, ?_⟩
  rfl'
  refine ⟨by show (b.marks.map PyData.int).length + 1 ≤ 100000; rw [List.length_map, hb.len]; decide, ?_⟩
  rfl'
  refine ⟨by show 10 + 5 ≤ 100000; decide, ?_⟩
  rfl'
  refine ⟨a0, ?_⟩
  rfl'
  refine ⟨by simp only [List.length_append, List.length_take, List.length_drop, List.length_map, List.length_cons, List.length_nil]; omega, ?_⟩
  rfl'
  refine ⟨by omega, ?_⟩
  rfl'
  refine ⟨by simp only [List.length_append, List.length_take, List.length_drop, List.length_map, List.length_cons, List.length_nil]; omega, ?_⟩
  rfl'
  refine ⟨by show 10 + 5 < 100000; decide, ?_⟩
  rfl'
  refine ⟨⟨by decide, by decide, by decide⟩, ?_⟩
  rfl'
  refine ⟨a0, ?_⟩
  rfl'
  refine ⟨by simp only [List.length_append, List.length_take, List.length_drop, List.length_map, List.length_cons, List.length_nil]; omega, ?_⟩
  rfl'
  refine ⟨by omega, ?_⟩
  rfl'
  refine ⟨by simp only [List.length_append, List.length_take, List.length_drop, List.length_map, List.length_cons, List.length_nil]; omega, ?_⟩
  rfl'
  refine take_ok (by decide) (by decide) fun z z0 z4 => ?_
  rfl'
  refine ifK_of (fun q => ?_) fun q => ?_
  · rfl'
    refine pick_ok (by simp) (by show 10 + 5 + 1 ≤ 100000; decide) fun y hy => ?_
    simp only [List.mem_append, List.mem_cons, List.not_mem_nil, or_false, or_assoc] at hy
    refine ⟨y, false, rfl, ?_⟩
    rcases hy with rfl | rfl | rfl | rfl | rfl | rfl | rfl | rfl | rfl | rfl | rfl | rfl | rfl | rfl | rfl | rfl
    · rfl
    · rfl
    · rfl
    · rfl
    · rfl
    · rfl
    · exact b3_a (by decide +kernel)
    · exact b3_a rfl
    · exact b3_w (by decide)
    · exact b3_w (by decide)
    · exact b3_w rfl
    · exact b3_w rfl
    · exact b3_4 rfl
    · exact b3_4 (decide_eq_false (by rw [List.length_take, List.length_map, lm]; decide))
    · exact b3_4 (decide_eq_false (by rw [List.length_append, List.length_map, lm]; decide))
    · refine b3_m ?_
      show List.all _ _ = false
      rw [List.all_append, List.all_append]
      have ob : whI o 0 100 = false := by
        simp only [List.mem_cons, List.not_mem_nil, or_false] at ho
        rcases ho with rfl | rfl | rfl | rfl | rfl | rfl <;> rfl
      rw [show ([o].all fun m => whI m 0 100) = false from by show (whI o 0 100 && true) = false; rw [ob]; rfl]
      simp
  · rfl'
    refine pick_ok (by simp) (by show 3 ≤ 100000; decide) fun y hy => ?_
    simp only [List.mem_cons, List.not_mem_nil, or_false] at hy
    refine ⟨y, true, rfl, ?_⟩
    have mk : ∀ x ∈ b.marks.map PyData.int, whI x 0 100 = true := fun x hx => by
      obtain ⟨m, hm, rfl⟩ := List.mem_map.mp hx
      exact whI_to (hb.mkb m hm).1 (hb.mkb m hm).2
    rcases hy with rfl | rfl | rfl
    · exact b3_ok (by decide) (by decide) (by rw [List.length_map, lm]) mk
    · exact b3_ok (by decide) (by decide) (by rw [List.length_map, lm]) mk
    · refine b3_ok hb.lo hb.hi (by simp only [List.length_append, List.length_take, List.length_drop, List.length_map, List.length_cons, List.length_nil]; omega) fun x hx => ?_
      rcases List.mem_append.mp hx with hx | hx
      · rcases List.mem_append.mp hx with hx | hx
        · exact mk x (List.mem_of_mem_take hx)
        · rw [List.mem_singleton.mp hx]
          decide
      · exact mk x (List.mem_of_mem_drop hx)
end
end Sc

set_option pp.maxSteps 400
/-! k68, 9: what is near to a formula. -/
namespace Sc
open PySem L2 Fw Wp Cd
open PyProof.Rows (envOfC)
local macro_rules | `(tactic| rfl') => `(tactic| conv => whnf)
theorem fb_bad {l : List PyData} {t : PyData} (h : termB t = false) : formB (.tuple (l ++ [t])) = false := by
  show (decide ((l ++ [t]).length ≤ 6) && (l ++ [t]).all termB) = false
  rw [List.all_append, show [t].all termB = false from by show (termB t && true) = false; rw [h]; rfl]
  simp
theorem fb_ok {l : List PyData} (h : l.length ≤ 6) (ha : ∀ t ∈ l, termB t = true) : formB (.tuple l) = true := by
  show (decide (l.length ≤ 6) && l.all termB) = true
  rw [decide_eq_true h, List.all_eq_true.mpr ha]
  rfl
theorem fb_long {l : List PyData} (h : ¬ l.length ≤ 6) : formB (.tuple l) = false := by
  show (decide (l.length ≤ 6) && l.all termB) = false
  rw [decide_eq_false h]
  rfl
def oddA : List PyData := [.tuple [.str "low"], .tuple [.str "low", .int 1, .int 1], .tuple [.str "mark", .int 4, .int 1], .tuple [.str "mark", .int (-1), .int 1], .tuple [.str "mark", .int 1], .tuple [.str "mark", .int 0, .int 0], .tuple [.str "mark", .int 0, .int 1001], .tuple [.str "Low", .int 1]]
def oddB : List PyData := [.list [.str "low", .int 1], .tuple [.none, .int 1], .tuple [.str "mark", .bool true, .int 1], .tuple [.str "mark", .str "0", .int 1], .tuple [.str "mean", .str "1"], .tuple [.str "range", .none], .str "low"]
theorem odd_bad : ∀ t ∈ oddA ++ oddB, termB t = false := by
  have q : (oddA ++ oddB).all (fun t => !termB t) = true := by decide +kernel
  intro t ht
  simpa using List.all_eq_true.mp q t ht
section
variable {P : Program} {w : World} {K : PySem.W.Frag} {mg : Str → Option Value} {base : Heap}
def Pbf (ds : List PyData) : Prop := ∃ f : List Tm, FormOk f ∧ ds = [formD f]
def Gbf (_ : List PyData) (d : PyData) : Prop := ∃ (x : PyData) (y : Bool), d = .tuple [x, .bool y] ∧ formB x = y
theorem ok_law_bent_formula (T : Txt K mg) : FnOk P w K mg base CX0 4 T.a_law_bent_formula T.d_law_bent_formula ["draw", "formula"] (spD68 K Pbf Gbf) := by
  refine drawW T.F_law_bent_formula sc_law_bent_formula (by rintro _ ⟨_, _, rfl⟩; rfl) fun cdv A outer s H E hr => ⟨_, (pss_cons (ksl 2 sc_law_bent_formula.nd (pe_lst (kpa pe_non (kpa pe_int (kpa pe_str (kpa (kTy (r := rLstOf K) call_list_of T.n_list (kpa (kvc 1) pa_nil)) (kpa (pe_op (r := rCatA K) op_catA (kvc 1) (pe_tup (kpa (pe_tup pa_nil) pa_nil))) (kpa (pe_op (r := rCatA K) op_catA (pe_slice (r := rSlA K) sl_tupA (kvc 1) po_none (po_some pe_int)) (pe_tup (kpa (pe_tup (kpa pe_str (kpa pe_int pa_nil))) pa_nil))) (kpa (pe_op (r := rCatA K) op_catA (pe_slice (r := rSlA K) sl_tupA (kvc 1) po_none (po_some pe_int)) (pe_tup (kpa (pe_tup (kpa pe_str (kpa pe_int pa_nil))) pa_nil))) (kpa (pe_op (r := rCatA K) op_catA (pe_slice (r := rSlA K) sl_tupA (kvc 1) po_none (po_some pe_int)) (pe_tup (kpa (pe_tup (kpa pe_str (kpa pe_bl pa_nil))) pa_nil))) pa_nil))))))))))
      (pss_cons (ksl 2 sc_law_bent_formula.nd (pe_op (r := rCatD K) op_catD (kvl 2) (pe_lc (own := [("term", 3)]) (g := (gName 3)) (tt := tYes) (by rfl) sc_law_bent_formula.nd (show PI _ _ _ (iList K _) from pi_list (pe_lst (kpa (pe_tup (kpa pe_str pa_nil)) (kpa (pe_tup (kpa pe_str (kpa pe_int (kpa pe_int pa_nil)))) (kpa (pe_tup (kpa pe_str (kpa pe_int (kpa pe_int pa_nil)))) (kpa (pe_tup (kpa pe_str (kpa (pe_un un_neg pe_int) (kpa pe_int pa_nil)))) (kpa (pe_tup (kpa pe_str (kpa pe_int pa_nil))) (kpa (pe_tup (kpa pe_str (kpa pe_int (kpa pe_int pa_nil)))) (kpa (pe_tup (kpa pe_str (kpa pe_int (kpa pe_int pa_nil)))) (kpa (pe_tup (kpa pe_str (kpa pe_int pa_nil))) pa_nil)))))))))) (blkOk_by (by kernel_rfl)) (fun _ _ _ _ _ => (kgl 3 sc_law_bent_formula.nd)) (fun _ _ _ _ _ => pts_nil) (fun _ _ _ _ _ => (pe_op (r := rCatA K) op_catA (pe_slice (r := rSlA K) sl_tupA (kvc 1) po_none (po_some pe_int)) (pe_tup (kpa (kvl 3) pa_nil)))))))
      (pss_cons (ksl 2 sc_law_bent_formula.nd (pe_op (r := rCatD K) op_catD (kvl 2) (pe_lc (own := [("term", 3)]) (g := (gName 3)) (tt := tYes) (by rfl) sc_law_bent_formula.nd (show PI _ _ _ (iList K _) from pi_list (pe_lst (kpa (pe_lst (kpa pe_str (kpa pe_int pa_nil))) (kpa (pe_tup (kpa pe_non (kpa pe_int pa_nil))) (kpa (pe_tup (kpa pe_str (kpa pe_bl (kpa pe_int pa_nil)))) (kpa (pe_tup (kpa pe_str (kpa pe_str (kpa pe_int pa_nil)))) (kpa (pe_tup (kpa pe_str (kpa pe_str pa_nil))) (kpa (pe_tup (kpa pe_str (kpa pe_non pa_nil))) (kpa pe_str pa_nil))))))))) (blkOk_by (by kernel_rfl)) (fun _ _ _ _ _ => (kgl 3 sc_law_bent_formula.nd)) (fun _ _ _ _ _ => pts_nil) (fun _ _ _ _ _ => (pe_op (r := rCatA K) op_catA (pe_slice (r := rSlA K) sl_tupA (kvc 1) po_none (po_some pe_int)) (pe_tup (kpa (kvl 3) pa_nil)))))))
      (pss_cons (kexpr (show PE _ _ (tBM K "list" _ _ _) from kmeth PySem.F.plainAttrs_list PySem.F.slot_list_append PySem.F.type_list_append mt_append (kvl 2) (kpa (pe_op (r := rCatA K) op_catA (kvc 1) (pe_op (r := rRepA K) op_repA (pe_tup (kpa (pe_tup (kpa pe_str (kpa pe_int pa_nil))) pa_nil)) (pe_op op_sub pe_int (kB (r := rLenQ K) call_len_seq T.n_len (kpa (kvc 1) pa_nil))))) pa_nil)))
      (pss_cons (ksl 4 sc_law_bent_formula.nd (pe_lst (kpa (pe_tup pa_nil) (kpa (pe_op (r := rCatA K) op_catA (pe_slice (r := rSlA K) sl_tupA (kvc 1) po_none (po_some pe_int)) (pe_tup (kpa (pe_tup (kpa pe_str (kpa pe_int (kpa pe_int pa_nil)))) pa_nil))) (kpa (pe_op (r := rCatA K) op_catA (pe_slice (r := rSlA K) sl_tupA (kvc 1) po_none (po_some pe_int)) (pe_tup (kpa (pe_tup (kpa pe_str (kpa pe_int pa_nil))) pa_nil))) (kpa (pe_op (r := rCatA K) op_catA (kvc 1) (pe_op (r := rRepA K) op_repA (pe_tup (kpa (pe_tup (kpa pe_str (kpa pe_int pa_nil))) pa_nil)) (pe_op op_sub pe_int (kB (r := rLenQ K) call_len_seq T.n_len (kpa (kvc 1) pa_nil))))) pa_nil))))))
      (pss_one (ps_ret (pe_ifExp (pt_cmpR op_gt (kcall (drU_law_take T) (hr.mono (by decide)) T.g__law_take T.k__law_take T.b__law_take (kpa (kvl 0) (kpa pe_int pa_nil))) pe_int (nomark _)) (pe_tup (kpa (kcall (drU_law_pick T) (hr.mono (by decide)) T.g__law_pick T.k__law_pick T.b__law_pick (kpa (kvl 0) (kpa (kvl 2) pa_nil))) (kpa pe_bl pa_nil))) (pe_tup (kpa (kcall (drU_law_pick T) (hr.mono (by decide)) T.g__law_pick T.k__law_pick T.b__law_pick (kpa (kvl 0) (kpa (kvl 4) pa_nil))) (kpa pe_bl pa_nil))))))))))), fun A => ⟨_, (jc_seq (jc_asg 2 (je_lst (ja_cons je_non (ja_cons je_int (ja_cons je_str (ja_cons (je_lstOf (ja_cons (je_var 1) ja_nil)) (ja_cons (je_catT (je_var 1) (je_tup (ja_cons (je_tup ja_nil) ja_nil))) (ja_cons (je_catT (je_tillT (je_var 1) je_int) (je_tup (ja_cons (je_tup (ja_cons je_str (ja_cons je_int ja_nil))) ja_nil))) (ja_cons (je_catT (je_tillT (je_var 1) je_int) (je_tup (ja_cons (je_tup (ja_cons je_str (ja_cons je_int ja_nil))) ja_nil))) (ja_cons (je_catT (je_tillT (je_var 1) je_int) (je_tup (ja_cons (je_tup (ja_cons je_str (ja_cons je_bl ja_nil))) ja_nil))) ja_nil))))))))))
      (jc_seq (jc_asg 2 (je_catL (je_var 2) (je_of_jf (jf_lc (ji_list (je_lst (ja_cons (je_tup (ja_cons je_str ja_nil)) (ja_cons (je_tup (ja_cons je_str (ja_cons je_int (ja_cons je_int ja_nil)))) (ja_cons (je_tup (ja_cons je_str (ja_cons je_int (ja_cons je_int ja_nil)))) (ja_cons (je_tup (ja_cons je_str (ja_cons (je_neg je_int) (ja_cons je_int ja_nil)))) (ja_cons (je_tup (ja_cons je_str (ja_cons je_int ja_nil))) (ja_cons (je_tup (ja_cons je_str (ja_cons je_int (ja_cons je_int ja_nil)))) (ja_cons (je_tup (ja_cons je_str (ja_cons je_int (ja_cons je_int ja_nil)))) (ja_cons (je_tup (ja_cons je_str (ja_cons je_int ja_nil))) ja_nil)))))))))) (jg_name 3) jt_yes (je_catT (je_tillT (je_var 1) je_int) (je_tup (ja_cons (je_var 3) ja_nil))) (by decide)))))
      (jc_seq (jc_own 2 (jf_cat (je_var 2) (je_of_jf (jf_lc (ji_list (je_lst (ja_cons (je_lst (ja_cons je_str (ja_cons je_int ja_nil))) (ja_cons (je_tup (ja_cons je_non (ja_cons je_int ja_nil))) (ja_cons (je_tup (ja_cons je_str (ja_cons je_bl (ja_cons je_int ja_nil)))) (ja_cons (je_tup (ja_cons je_str (ja_cons je_str (ja_cons je_int ja_nil)))) (ja_cons (je_tup (ja_cons je_str (ja_cons je_str ja_nil))) (ja_cons (je_tup (ja_cons je_str (ja_cons je_non ja_nil))) (ja_cons je_str ja_nil))))))))) (jg_name 3) jt_yes (je_catT (je_tillT (je_var 1) je_int) (je_tup (ja_cons (je_var 3) ja_nil))) (by decide)))))
      (jc_seq (jc_app 2 (je_catT (je_var 1) (je_repT (je_tup (ja_cons (je_tup (ja_cons je_str (ja_cons je_int ja_nil))) ja_nil)) (je_sub je_int (je_len (ja_cons (je_var 1) ja_nil))))))
      (jc_seq (jc_asg 4 (je_lst (ja_cons (je_tup ja_nil) (ja_cons (je_catT (je_tillT (je_var 1) je_int) (je_tup (ja_cons (je_tup (ja_cons je_str (ja_cons je_int (ja_cons je_int ja_nil)))) ja_nil))) (ja_cons (je_catT (je_tillT (je_var 1) je_int) (je_tup (ja_cons (je_tup (ja_cons je_str (ja_cons je_int ja_nil))) ja_nil))) (ja_cons (je_catT (je_var 1) (je_repT (je_tup (ja_cons (je_tup (ja_cons je_str (ja_cons je_int ja_nil))) ja_nil)) (je_sub je_int (je_len (ja_cons (je_var 1) ja_nil))))) ja_nil))))))
      (jc_ret (je_if (jt_test (je_gt (je_callU 0 (ja_cons je_int ja_nil)) je_int)) (je_tup (ja_cons (je_callU 0 (ja_cons (je_var 2) ja_nil)) (ja_cons je_bl ja_nil))) (je_tup (ja_cons (je_callU 0 (ja_cons (je_var 4) ja_nil)) (ja_cons je_bl ja_nil)))))))))), ?_⟩⟩
  rintro _ ⟨f, hf, rfl⟩
  have lf := hf.1
  have tf : ∀ t ∈ f.map Tm.d, termB t = true := fun t ht => by
    obtain ⟨x, hx, rfl⟩ := List.mem_map.mp ht
    exact term_ok (hf.2 x hx)
  have cat : (f.map Tm.d).length + 1 ≤ 100000 := by rw [List.length_map]; omega
  have cut : ((f.map Tm.d).take 5).length + 1 ≤ 100000 := by rw [List.length_take, List.length_map]; omega
  rfl'
  refine ⟨cat, ?_⟩
  rfl'
  refine ⟨by decide, ?_⟩
  rfl'
  refine ⟨cut, ?_⟩
  rfl'
  refine ⟨by decide, ?_⟩
  rfl'
  refine ⟨cut, ?_⟩
  rfl'
  refine ⟨by decide, ?_⟩
  rfl'
  refine ⟨cut, ?_⟩
  rfl'
  refine ⟨by show 8 ≤ 16000000; decide, ?_⟩
  refine lcW_map0 (f := fun t => .tuple ((f.map Tm.d).take 5 ++ [t])) (fun t _ A C hA => ?_) ?_
  · rfl'
    refine ⟨by decide, ?_⟩
    rfl'
    exact ⟨cut, hA⟩
  rfl'
  refine ⟨by show 8 + 8 ≤ 100000; decide, ?_⟩
  rfl'
  refine ⟨by show 7 ≤ 16000000; decide, ?_⟩
  refine lcW_map0 (f := fun t => .tuple ((f.map Tm.d).take 5 ++ [t])) (fun t _ A C hA => ?_) ?_
  · rfl'
    refine ⟨by decide, ?_⟩
    rfl'
    exact ⟨cut, hA⟩
  rfl'
  refine ⟨by show 8 + 8 + 7 ≤ 100000; decide, ?_⟩
  rfl'
  refine ⟨⟨by rw [List.length_map]; omega, by rw [List.length_map]; omega⟩, ?_⟩
  rfl'
  refine ⟨by rw [List.length_replicate, List.length_map]; omega, ?_⟩
  rfl'
  refine ⟨by simp, ?_⟩
  rfl'
  refine ⟨by decide, ?_⟩
  rfl'
  refine ⟨cut, ?_⟩
  rfl'
  refine ⟨by decide, ?_⟩
  rfl'
  refine ⟨cut, ?_⟩
  rfl'
  refine ⟨⟨by rw [List.length_map]; omega, by rw [List.length_map]; omega⟩, ?_⟩
  rfl'
  refine ⟨by rw [List.length_replicate, List.length_map]; omega, ?_⟩
  rfl'
  refine take_ok (by decide) (by decide) fun z z0 z4 => ?_
  rfl'
  refine ifK_of (fun q => ?_) fun q => ?_
  · rfl'
    refine pick_ok (by simp) (by simp) fun y hy => ?_
    refine ⟨y, false, rfl, ?_⟩
    have far : ∀ t ∈ oddA ++ oddB, formB (.tuple ((f.map Tm.d).take 5 ++ [t])) = false := fun t ht => fb_bad (odd_bad t ht)
    rcases List.mem_append.mp hy with hy | hy
    · rcases List.mem_append.mp hy with hy | hy
      · rcases List.mem_append.mp hy with hy | hy
        · simp only [List.mem_cons, List.not_mem_nil, or_false] at hy
          rcases hy with rfl | rfl | rfl | rfl | rfl | rfl | rfl | rfl
          · rfl
          · rfl
          · rfl
          · rfl
          · exact fb_bad rfl
          · exact fb_bad (by decide +kernel)
          · exact fb_bad (by decide +kernel)
          · exact fb_bad (by decide +kernel)
        · obtain ⟨t, ht, rfl⟩ := List.mem_map.mp hy
          exact far t (List.mem_append_left _ ht)
      · obtain ⟨t, ht, rfl⟩ := List.mem_map.mp hy
        exact far t (List.mem_append_right _ ht)
    · rw [List.mem_singleton.mp hy]
      exact fb_long (by rw [List.length_append, List.length_replicate, List.length_map]; omega)
  · rfl'
    refine pick_ok (by simp) (by show 4 ≤ 100000; decide) fun y hy => ?_
    refine ⟨y, true, rfl, ?_⟩
    have near : ∀ t, termB t = true → formB (.tuple ((f.map Tm.d).take 5 ++ [t])) = true := fun t ht => fb_ok (by rw [List.length_append, List.length_take, List.length_map]; show min 5 f.length + 1 ≤ 6; omega) fun x hx => by
      rcases List.mem_append.mp hx with hx | hx
      · exact tf x (List.mem_of_mem_take hx)
      · rw [List.mem_singleton.mp hx]
        exact ht
    simp only [List.mem_cons, List.not_mem_nil, or_false] at hy
    rcases hy with rfl | rfl | rfl | rfl
    · rfl
    · exact near _ (by decide +kernel)
    · exact near _ (by decide +kernel)
    · refine fb_ok (by rw [List.length_append, List.length_replicate, List.length_map]; omega) fun x hx => ?_
      rcases List.mem_append.mp hx with hx | hx
      · exact tf x hx
      · rw [List.eq_of_mem_replicate hx]
        decide +kernel
end
end Sc

/-! The frame: a law that makes a lambda, entered at the claim's own caller; its table of code objects is tracked. -/
namespace Fw
open PySem L2 PySem.Spec LamX
open PyProof.Rows
section
variable {P : Program} {w : World} {K : PySem.W.Frag} {mg mb : Str → Option Value} {base : Heap}
structure LawAtT (P : Program) (w : World) (K : PySem.W.Frag) (mg : Str → Option Value) (x : Str) (st : Stmt) (f : Addr) (fd : FuncData) (k n : Nat) (p : Str) : Prop where
  fn : Fun K x x st f fd
  nm : ∃ N : List Str, FnScope N [p] (defScope st) ∧ ∀ (base : Heap) (m T0 : Addr) (s : Shared) (H : Hp), Mod K mg base → TabB base mg m T0 → Room k (callerA.deeper (envOfC x (defScope st) s.heap.objs.size f (.ref m))) →
    ∃ t, PSs (cxOf CX0 P w K mg base N x (defScope st) f (.ref m) callerA [] s H E0).nox (defBody st) t ∧
      ∀ (a : Addr) (ns : List Int), ns.length ≤ n → H T0 = some (.tbl #[]) → At K W0 [T0] ⟨H, H⟩ (slots N.length [.list (ns.map .int)]) (L2.start N [.ref a]) H → t { nx := fun _ _ => False, rt := fun v _ => v = .bl true } (L2.start N [.ref a]) H
theorem law_runsT {x p : Str} {st : Stmt} {f a m T0 : Addr} {fd : FuncData} {k n : Nat} {s : Shared} {H : Hp} {ns : List Int} (L : LawAtT P w K mg x st f fd k n p) (hr : Room (k + 1) callerA) (ec : fd.code = .ref m) (B : TabB base mg m T0) (hT : H T0 = some (.tbl #[])) (aT : a ≠ T0)
    (e0 : Env0 P w K mg base callerA [] s H) (hb : BindsTo s fd ⟨[.ref a], []⟩ [(p, .ref a)]) (hl : ns.length ≤ n) (hS : SqL K H a (ns.map .int)) :
    codeAny (model P w) callerA (.call (.ref f) ⟨[.ref a], []⟩) (CR CX0 [] P w H s (fun v _ => v = .bl true) E0) s := by
  obtain ⟨cl, od, kV, doc, pm, an, cdv, ct, osl, rfl, found, hc⟩ := L.fn.ex
  obtain rfl : cdv = .ref m := ec
  obtain ⟨N, S, hN⟩ := L.nm
  have inK : K.In s.heap := e0.mod.kin.keeps fun b o q => (e0.bs b o q).1
  refine codeAny_call_function (hroom := hr.depth) (inK _ _ found) rfl S.co S.gen rfl (PySem.W.codeRec_of inK hc) (hb _ _ _ _ (wpAny_newFunctionEnv_cells S.kind (fun y hy => ?_) fun env he s1 z => ?_))
  · obtain rfl : y = (p, .ref a) := List.mem_singleton.mp hy
    exact (S.par p List.mem_cons_self).elim .inl fun q => .inr ⟨q, PySem.W.cellsFrom_some _ _ _ (.inl q)⟩
  subst he
  refine ⟨e0.mod.nolimit.keeps fun b o q => z.toInCall.keep b o ((e0.bs b o q).1), codeAny_func ?_⟩
  obtain ⟨t, ht, hq⟩ := hN base m T0 s H e0.mod B (hr.deeper _)
  have J : Inv (cxOf CX0 P w K mg base N x (defScope st) f (.ref m) callerA [] s H E0) [] (L2.start N [.ref a]) H s1 := inv_start (us := [.ref a]) S hr.hd e0 rfl (.cons rfl .nil) z
  have sql : SqL K (cut [T0] H) a (ns.map .int) := by
    rcases hS with h | h
    · refine .inl ?_
      have out : cut [T0] H a = H a := cut_out (by simpa using aT)
      rcases h with h | ⟨o, h⟩
      · exact .inl (out.trans h)
      · exact .inr ⟨o, out.trans h⟩
    · exact .inr h
  have h0 : At K W0 [T0] ⟨H, H⟩ (slots N.length [.list (ns.map .int)]) (L2.start N [.ref a]) H := at_start (fun b q => by rw [List.mem_singleton.mp q]; exact ⟨_, hT⟩) (.cons (.lst sql (dpa_of_ints _ _ _)) .nil)
  refine wpAny_mono (ht.nox.run [] s1 _ H _ J (hq a ns hl hT h0)) (fun fl s' g => ?_) fun e s' g => g
  match fl, g with
  | .ret u, ⟨v, σ', H', J', rv, q⟩ => exact ⟨v, H', J'.os, J'.bare, J'.base, J'.hok, rv, q⟩
  | .next, ⟨_, _, _, q⟩ => exact q.elim
  | .brk, ⟨_, _, _, q⟩ => exact q.elim
  | .cont, ⟨_, _, _, q⟩ => exact q.elim
/-- the heap as the law sees it: the script and the table -/
theorem heap_ofT {s : Shared} {a T0 : Addr} {vs : List Value} {ns : List Int} (KX : K.In s.heap) (ha : s.heap.get? a = some { cls := .type "list", data := .seq vs.toArray }) (hi : IntsAre vs ns) (hl : ns.length ≤ sizeLine) (hT : s.heap.get? T0 = some { cls := .none, data := .fields #[] }) :
    ∃ H : Hp, a ≠ T0 ∧ H T0 = some (.tbl #[]) ∧ (∀ b u, H b = some u → b = T0 ∨ b = a ∧ ∃ o xs, u = .frz o (.lst xs)) ∧ SqL K H a (ns.map .int) ∧ HOk P w H s.heap ∧ (H a ≠ none → K.lookup a = none) := by
  obtain ⟨H, only, hS, hok, hK⟩ := heap_of (P := P) (w := w) KX ha hi hl
  have aT : a ≠ T0 := fun z => by
    rw [z, hT] at ha
    cases ha
  have n0 : H T0 = none := by
    cases e : H T0 with
    | none => rfl
    | some u => exact absurd (only _ _ e).1.symm aT
  have up : Same H (upd H T0 (.tbl #[])) := same_put n0
  refine ⟨upd H T0 (.tbl #[]), aT, upd_same, fun b u e => ?_, sql_mono up hS, HOk.laidN hok (fun _ _ q => q) n0 hT, fun z => hK (by rwa [upd_ne aT] at z)⟩
  by_cases q : b = T0
  · exact .inl q
  · rw [upd_ne q] at e
    exact .inr (only b u e)
theorem law_fromT {x p : Str} {st : Stmt} {f a m T0 : Addr} {fd : FuncData} {k n : Nat} {s : Shared} {vs : List Value} {ns : List Int} (KX : K.In s.heap) (g1 : s.heap.Ns mainGlobals mg) (g2 : s.heap.Ns builtinsNs mb) (g3 : ∀ y : Str, y ≠ "__name__" → mb y = bootBuiltins y)
    (g4 : s.heap.NoLimit) (g5 : s.gens = #[]) (ha : s.heap.get? a = some { cls := .type "list", data := .seq vs.toArray }) (hi : IntsAre vs ns) (hl : ns.length ≤ n) (hn : n ≤ sizeLine) (hr : Room (k + 1) callerA) (L : LawAtT P w K mg x st f fd k n p)
    (hb : ∀ (s : Shared) (u : Value), BindsTo s fd ⟨[u], []⟩ [(p, u)]) (ec : fd.code = .ref m) (cd : PySem.W.CodeHd s.heap m T0) (hT : s.heap.get? T0 = some { cls := .none, data := .fields #[] }) (nT : K.lookup T0 = none)
    (bmain : ∃ (bm : Addr) (ob : Obj), mg "__builtins__" = some (.ref bm) ∧ bm ≠ builtinsNs ∧ s.heap.get? bm = some ob ∧ ob.cls = .type "module" ∧ ob.dict = some builtinsNs ∧ ob.data = .plain) :
    codeAny (model P w) callerA (.call (.ref f) ⟨[.ref a], []⟩) (fun r s' => r = .ok (.ret (.bool true)) ∧ OldK s.heap s'.heap ∧ s'.os = s.os ∧ AllBare s'.gens) s := by
  obtain ⟨H, aT, tT, only, hS, hok, hK⟩ := heap_ofT (P := P) (w := w) KX ha hi (Nat.le_trans hl hn) hT
  have free : ∀ {b : Addr} {o : Obj}, s.heap.get? b = some o → b ≠ a → b ≠ T0 → (hidT s.heap H).get? b = some o := fun {b o} e z1 z2 => hidT_get e (by
    cases q : H b with
    | none => rfl
    | some u => exact ((only b u q).elim z2 fun z => z1 z.1).elim)
  have notT : ∀ {b : Addr} {o : Obj}, s.heap.get? b = some o → o.data ≠ .fields #[] → b ≠ T0 := fun {b o} e d z => by
    rw [z, hT] at e
    cases e
    exact d rfl
  have notA : ∀ {b : Addr} {o : Obj}, s.heap.get? b = some o → o.data ≠ .seq vs.toArray → b ≠ a := fun {b o} e d z => by
    rw [z, ha] at e
    cases e
    exact d rfl
  have spaces : ∀ {b : Addr} {mm : Str → Option Value}, s.heap.Ns b mm → (hidT s.heap H).Ns b mm := fun {b mm} ⟨o, es, ep, e, d, r⟩ => ⟨o, es, ep, free e (notA e (by rw [d]; intro z; cases z)) (notT e (by rw [d]; intro z; cases z)), d, r⟩
  have KH : K.In (hidT s.heap H) := fun b o e => hidT_get (KX b o e) (by
    cases q : H b with
    | none => rfl
    | some u =>
      rcases only b u q with z | z
      · rw [z, nT] at e
        cases e
      · rw [z.1, hK (by rw [← z.1, q]; simp)] at e
        cases e)
  have M : Mod K mg (hidT s.heap H) := ⟨KH, spaces g1, ⟨mb, spaces g2, g3⟩, let ⟨mc, h1, h2⟩ := g4; ⟨mc, spaces h1, h2⟩⟩
  have nG : mainGlobals ≠ T0 := by
    obtain ⟨o, es, ep, e, d, _⟩ := g1
    exact notT e (by rw [d]; intro z; cases z)
  have B : TabB (hidT s.heap H) mg m T0 := by
    refine ⟨?_, ?_, nG⟩
    · obtain ⟨o, us, fi, tf, fl, tg, inF, tx, tt, e1, r1, r2, r3, r4, r5, r6, r7, r8, hne⟩ := cd
      refine ⟨o, us, fi, tf, fl, tg, inF, tx, tt, free e1 (notA e1 (by rw [r2]; intro z; cases z)) (notT e1 fun z => ?_), r1, r2, r3, r4, r5, r6, r7, r8, hne⟩
      rw [r2] at z
      cases z
      simp at r3
    · obtain ⟨bm, ob, b1, b2, b3, b4, b5, b6⟩ := bmain
      have nbG : bm ≠ mainGlobals := fun z => by
        obtain ⟨o, es, ep, e, d, _⟩ := g1
        rw [z, e] at b3
        cases b3
        rw [d] at b6
        cases b6
      have nbT : bm ≠ T0 := notT b3 (by rw [b6]; intro z; cases z)
      exact ⟨bm, ob, b1, b2, nbG, nbT, free b3 (notA b3 (by rw [b6]; intro z; cases z)) nbT, b4, b5, b6⟩
  have e0 : Env0 P w K mg (hidT s.heap H) callerA [] s H := ⟨rfl, M, fun b o e => of_hidT e, Nat.le_of_eq (hidT_size _ _), trivial, fun b z => (nomatch (show b ∈ ([] : List Addr) from z)), hok, .of_eq g5⟩
  refine codeAny_mono (law_runsT L hr ec B tT aT e0 (hb s (.ref a)) hl hS) fun r s' h => ?_
  match r, h with
  | .error e, h => exact h.elim
  | .ok .next, h => exact h.elim
  | .ok .brk, h => exact h.elim
  | .ok .cont, h => exact h.elim
  | .ok (.ret u), ⟨v, H2, os, bare, un, ok2, rel, q⟩ =>
    obtain rfl : v = .bl true := q
    obtain rfl : u = Value.bool true := rel
    have key : ∀ b o, b ≠ T0 → s.heap.get? b = some o → s'.heap.get? b = some o := fun b o nb e => by
      cases q : H b with
      | none => exact un.keep b o e q (fun z => nomatch (show b ∈ ([] : List Addr) from z)) (by simp)
      | some u2 =>
        rcases only b u2 q with z | ⟨_, ob, xs, rfl⟩
        · exact absurd z nb
        · obtain ⟨e1, _⟩ := hok b _ q
          obtain ⟨e2, _⟩ := ok2 b _ (un.frzs b ob _ q)
          rw [e] at e1
          cases e1
          exact e2
    obtain ⟨more, gr⟩ := un.tbls T0 #[] tT
    have gr2 : s'.heap.get? T0 = some { cls := .none, data := .fields (#[] ++ more) } := ok2 T0 _ gr
    refine ⟨rfl, ⟨fun b o e => ?_, fun b o e => ?_⟩, os, bare⟩
    · by_cases z : b = T0
      · rw [z, hT] at e
        cases e
        rw [z]
        exact .inr (.inl ⟨(cd.tab hT).isCodeTable, rfl, #[], more, rfl, gr2⟩)
      · exact .inl (key b o z e)
    · by_cases z : b = T0
      · rw [z]
        exact ⟨_, gr2⟩
      · exact ⟨o, key b o z e⟩
end
/-- the end of a row whose law shows lists and makes a lambda -/
theorem walk_atT {l : PySem.W.OpenLaw} {q : Program} {n k : Nat} {loose : List Str} {XP : (Str → Option Value) → Heap → Prop} {YP : World → Heap → Prop} {d : DefRec} {K : Params → PySem.W.Frag} {st : Stmt} {p : Str} (hn : l.most = some n) (hn2 : n ≤ sizeLine) (hdf : d.params.defaults = []) (hr : Room (k + 1) callerA)
    (hrec : ((recsOf q).any fun e => e.name == d.name) = true) (hNT : ∀ w : World, PySem.W.noTabs (K w.params) = true) (hY : ∀ (w : World) (h : Heap), YP w h → (K w.params).In h)
    (F : ∀ (w : World) (mg : Str → Option Value) (fa : Addr) (h : Heap), (K w.params).In h → h.Ns mainGlobals mg → XP mg h → mg d.name = some (.ref fa) →
      ∃ fd : FuncData, (∀ (s : Shared) (u : Value), BindsTo s fd ⟨[u], []⟩ [(p, u)]) ∧ LawAtT l.prog w (K w.params) mg d.name st fa fd k n p) :
    PySem.W.WalkO q loose XP YP l.row.toRowW d [] (fun f vs => PySem.call f vs) := by
  refine Att.attach_call hn hdf fun w s0 s1 mg mb fa o pm cd doc a vs ns G Y _ _ _ hm ha hi hl hg => ?_
  have KX := hY w _ Y
  obtain ⟨fd, hb, L⟩ := F w mg fa _ KX G.T.g G.X hm
  obtain ⟨dL, hd1, hd2⟩ := List.any_eq_true.mp hrec
  have en : dL.name = d.name := beq_iff_eq.mp hd2
  obtain ⟨a', o', fd', c, T0, t1, t2, t3, t4, t5, t6⟩ := G.T.tab dL hd1
  rw [en, hm] at t1
  cases t1
  obtain ⟨cl, od, kV, dc, pm2, an, cdv, ct, osl, efd, found, _⟩ := L.fn.ex
  have e9 := KX _ _ found
  rw [t2] at e9
  cases e9
  cases t3
  have hT : s1.heap.get? T0 = some { cls := .none, data := .fields #[] } := t6.2
  have nT : (K w.params).lookup T0 = none := by
    cases e : (K w.params).lookup T0 with
    | none => rfl
    | some u =>
      have e1 := KX _ _ e
      rw [hT] at e1
      cases e1
      exact absurd (show false = true from List.all_eq_true.mp (hNT w) (T0, _) (PySem.W.mem_of_lookupK e)) Bool.false_ne_true
  exact law_fromT KX G.T.g G.T.b G.T.builtins G.T.nolimit hg ha hi hl hn2 hr L hb t4 (.of t5 t6) hT nT G.T.bmain
end Fw

/-! The frame: a law one of whose defs makes a lambda, entered at the claim's own caller; the table of that def is tracked. -/
namespace Fw
open PySem L2 PySem.Spec LamX
open PyProof.Rows
section
variable {P : Program} {w : World} {K : PySem.W.Frag} {mg mb : Str → Option Value} {base : Heap}
structure LawAtU (P : Program) (w : World) (K : PySem.W.Frag) (mg : Str → Option Value) (x : Str) (st : Stmt) (f : Addr) (fd : FuncData) (k n : Nat) (p y : Str) (fy : Addr) (fdy : FuncData) : Prop where
  fn : Fun K x x st f fd
  fny : ∃ sty : Stmt, Fun K y y sty fy fdy
  gy : mg y = some (.ref fy)
  nm : ∃ N : List Str, FnScope N [p] (defScope st) ∧ ∀ (base : Heap) (cdv : Value) (m T0 : Addr) (s : Shared) (H : Hp), fdy.code = .ref m → Mod K mg base → TabB base mg m T0 → Room k (callerA.deeper (envOfC x (defScope st) s.heap.objs.size f cdv)) →
    ∃ t, PSs (cxOf CX0 P w K mg base N x (defScope st) f cdv callerA [] s H E0).nox (defBody st) t ∧
      ∀ (a : Addr) (ns : List Int), ns.length ≤ n → H T0 = some (.tbl #[]) → At K W0 [T0] ⟨H, H⟩ (slots N.length [.list (ns.map .int)]) (L2.start N [.ref a]) H → t { nx := fun _ _ => False, rt := fun v _ => v = .bl true } (L2.start N [.ref a]) H
theorem law_runsU {x p y : Str} {st : Stmt} {f a m T0 fy : Addr} {fd fdy : FuncData} {k n : Nat} {s : Shared} {H : Hp} {ns : List Int} (L : LawAtU P w K mg x st f fd k n p y fy fdy) (hr : Room (k + 1) callerA) (ec : fdy.code = .ref m) (B : TabB base mg m T0) (hT : H T0 = some (.tbl #[])) (aT : a ≠ T0)
    (e0 : Env0 P w K mg base callerA [] s H) (hb : BindsTo s fd ⟨[.ref a], []⟩ [(p, .ref a)]) (hl : ns.length ≤ n) (hS : SqL K H a (ns.map .int)) :
    codeAny (model P w) callerA (.call (.ref f) ⟨[.ref a], []⟩) (CR CX0 [] P w H s (fun v _ => v = .bl true) E0) s := by
  obtain ⟨cl, od, kV, doc, pm, an, cdv, ct, osl, rfl, found, hc⟩ := L.fn.ex
  obtain ⟨N, S, hN⟩ := L.nm
  have inK : K.In s.heap := e0.mod.kin.keeps fun b o q => (e0.bs b o q).1
  refine codeAny_call_function (hroom := hr.depth) (inK _ _ found) rfl S.co S.gen rfl (PySem.W.codeRec_of inK hc) (hb _ _ _ _ (wpAny_newFunctionEnv_cells S.kind (fun y hy => ?_) fun env he s1 z => ?_))
  · obtain rfl : y = (p, .ref a) := List.mem_singleton.mp hy
    exact (S.par p List.mem_cons_self).elim .inl fun q => .inr ⟨q, PySem.W.cellsFrom_some _ _ _ (.inl q)⟩
  subst he
  refine ⟨e0.mod.nolimit.keeps fun b o q => z.toInCall.keep b o ((e0.bs b o q).1), codeAny_func ?_⟩
  obtain ⟨t, ht, hq⟩ := hN base cdv m T0 s H ec e0.mod B (hr.deeper _)
  have J : Inv (cxOf CX0 P w K mg base N x (defScope st) f cdv callerA [] s H E0) [] (L2.start N [.ref a]) H s1 := inv_start (us := [.ref a]) S hr.hd e0 rfl (.cons rfl .nil) z
  have sql : SqL K (cut [T0] H) a (ns.map .int) := by
    rcases hS with h | h
    · refine .inl ?_
      have out : cut [T0] H a = H a := cut_out (by simpa using aT)
      rcases h with h | ⟨o, h⟩
      · exact .inl (out.trans h)
      · exact .inr ⟨o, out.trans h⟩
    · exact .inr h
  have h0 : At K W0 [T0] ⟨H, H⟩ (slots N.length [.list (ns.map .int)]) (L2.start N [.ref a]) H := at_start (fun b q => by rw [List.mem_singleton.mp q]; exact ⟨_, hT⟩) (.cons (.lst sql (dpa_of_ints _ _ _)) .nil)
  refine wpAny_mono (ht.nox.run [] s1 _ H _ J (hq a ns hl hT h0)) (fun fl s' g => ?_) fun e s' g => g
  match fl, g with
  | .ret u, ⟨v, σ', H', J', rv, q⟩ => exact ⟨v, H', J'.os, J'.bare, J'.base, J'.hok, rv, q⟩
  | .next, ⟨_, _, _, q⟩ => exact q.elim
  | .brk, ⟨_, _, _, q⟩ => exact q.elim
  | .cont, ⟨_, _, _, q⟩ => exact q.elim
theorem law_fromU {x p y : Str} {st : Stmt} {f a m T0 fy : Addr} {fd fdy : FuncData} {k n : Nat} {s : Shared} {vs : List Value} {ns : List Int} (KX : K.In s.heap) (g1 : s.heap.Ns mainGlobals mg) (g2 : s.heap.Ns builtinsNs mb) (g3 : ∀ y : Str, y ≠ "__name__" → mb y = bootBuiltins y)
    (g4 : s.heap.NoLimit) (g5 : s.gens = #[]) (ha : s.heap.get? a = some { cls := .type "list", data := .seq vs.toArray }) (hi : IntsAre vs ns) (hl : ns.length ≤ n) (hn : n ≤ sizeLine) (hr : Room (k + 1) callerA) (L : LawAtU P w K mg x st f fd k n p y fy fdy)
    (hb : ∀ (s : Shared) (u : Value), BindsTo s fd ⟨[u], []⟩ [(p, u)]) (ec : fdy.code = .ref m) (cd : PySem.W.CodeHd s.heap m T0) (hT : s.heap.get? T0 = some { cls := .none, data := .fields #[] }) (nT : K.lookup T0 = none)
    (bmain : ∃ (bm : Addr) (ob : Obj), mg "__builtins__" = some (.ref bm) ∧ bm ≠ builtinsNs ∧ s.heap.get? bm = some ob ∧ ob.cls = .type "module" ∧ ob.dict = some builtinsNs ∧ ob.data = .plain) :
    codeAny (model P w) callerA (.call (.ref f) ⟨[.ref a], []⟩) (fun r s' => r = .ok (.ret (.bool true)) ∧ OldK s.heap s'.heap ∧ s'.os = s.os ∧ AllBare s'.gens) s := by
  obtain ⟨H, aT, tT, only, hS, hok, hK⟩ := heap_ofT (P := P) (w := w) KX ha hi (Nat.le_trans hl hn) hT
  have free : ∀ {b : Addr} {o : Obj}, s.heap.get? b = some o → b ≠ a → b ≠ T0 → (hidT s.heap H).get? b = some o := fun {b o} e z1 z2 => hidT_get e (by
    cases q : H b with
    | none => rfl
    | some u => exact ((only b u q).elim z2 fun z => z1 z.1).elim)
  have notT : ∀ {b : Addr} {o : Obj}, s.heap.get? b = some o → o.data ≠ .fields #[] → b ≠ T0 := fun {b o} e d z => by
    rw [z, hT] at e
    cases e
    exact d rfl
  have notA : ∀ {b : Addr} {o : Obj}, s.heap.get? b = some o → o.data ≠ .seq vs.toArray → b ≠ a := fun {b o} e d z => by
    rw [z, ha] at e
    cases e
    exact d rfl
  have spaces : ∀ {b : Addr} {mm : Str → Option Value}, s.heap.Ns b mm → (hidT s.heap H).Ns b mm := fun {b mm} ⟨o, es, ep, e, d, r⟩ => ⟨o, es, ep, free e (notA e (by rw [d]; intro z; cases z)) (notT e (by rw [d]; intro z; cases z)), d, r⟩
  have KH : K.In (hidT s.heap H) := fun b o e => hidT_get (KX b o e) (by
    cases q : H b with
    | none => rfl
    | some u =>
      rcases only b u q with z | z
      · rw [z, nT] at e
        cases e
      · rw [z.1, hK (by rw [← z.1, q]; simp)] at e
        cases e)
  have M : Mod K mg (hidT s.heap H) := ⟨KH, spaces g1, ⟨mb, spaces g2, g3⟩, let ⟨mc, h1, h2⟩ := g4; ⟨mc, spaces h1, h2⟩⟩
  have nG : mainGlobals ≠ T0 := by
    obtain ⟨o, es, ep, e, d, _⟩ := g1
    exact notT e (by rw [d]; intro z; cases z)
  have B : TabB (hidT s.heap H) mg m T0 := by
    refine ⟨?_, ?_, nG⟩
    · obtain ⟨o, us, fi, tf, fl, tg, inF, tx, tt, e1, r1, r2, r3, r4, r5, r6, r7, r8, hne⟩ := cd
      refine ⟨o, us, fi, tf, fl, tg, inF, tx, tt, free e1 (notA e1 (by rw [r2]; intro z; cases z)) (notT e1 fun z => ?_), r1, r2, r3, r4, r5, r6, r7, r8, hne⟩
      rw [r2] at z
      cases z
      simp at r3
    · obtain ⟨bm, ob, b1, b2, b3, b4, b5, b6⟩ := bmain
      have nbG : bm ≠ mainGlobals := fun z => by
        obtain ⟨o, es, ep, e, d, _⟩ := g1
        rw [z, e] at b3
        cases b3
        rw [d] at b6
        cases b6
      have nbT : bm ≠ T0 := notT b3 (by rw [b6]; intro z; cases z)
      exact ⟨bm, ob, b1, b2, nbG, nbT, free b3 (notA b3 (by rw [b6]; intro z; cases z)) nbT, b4, b5, b6⟩
  have e0 : Env0 P w K mg (hidT s.heap H) callerA [] s H := ⟨rfl, M, fun b o e => of_hidT e, Nat.le_of_eq (hidT_size _ _), trivial, fun b z => (nomatch (show b ∈ ([] : List Addr) from z)), hok, .of_eq g5⟩
  refine codeAny_mono (law_runsU L hr ec B tT aT e0 (hb s (.ref a)) hl hS) fun r s' h => ?_
  match r, h with
  | .error e, h => exact h.elim
  | .ok .next, h => exact h.elim
  | .ok .brk, h => exact h.elim
  | .ok .cont, h => exact h.elim
  | .ok (.ret u), ⟨v, H2, os, bare, un, ok2, rel, q⟩ =>
    obtain rfl : v = .bl true := q
    obtain rfl : u = Value.bool true := rel
    have key : ∀ b o, b ≠ T0 → s.heap.get? b = some o → s'.heap.get? b = some o := fun b o nb e => by
      cases q : H b with
      | none => exact un.keep b o e q (fun z => nomatch (show b ∈ ([] : List Addr) from z)) (by simp)
      | some u2 =>
        rcases only b u2 q with z | ⟨_, ob, xs, rfl⟩
        · exact absurd z nb
        · obtain ⟨e1, _⟩ := hok b _ q
          obtain ⟨e2, _⟩ := ok2 b _ (un.frzs b ob _ q)
          rw [e] at e1
          cases e1
          exact e2
    obtain ⟨more, gr⟩ := un.tbls T0 #[] tT
    have gr2 : s'.heap.get? T0 = some { cls := .none, data := .fields (#[] ++ more) } := ok2 T0 _ gr
    refine ⟨rfl, ⟨fun b o e => ?_, fun b o e => ?_⟩, os, bare⟩
    · by_cases z : b = T0
      · rw [z, hT] at e
        cases e
        rw [z]
        exact .inr (.inl ⟨(cd.tab hT).isCodeTable, rfl, #[], more, rfl, gr2⟩)
      · exact .inl (key b o z e)
    · by_cases z : b = T0
      · rw [z]
        exact ⟨_, gr2⟩
      · exact ⟨o, key b o z e⟩
end
/-- the end of a row whose law shows lists and makes a lambda -/
theorem walk_atU {l : PySem.W.OpenLaw} {q : Program} {n k : Nat} {loose : List Str} {XP : (Str → Option Value) → Heap → Prop} {YP : World → Heap → Prop} {d : DefRec} {K : Params → PySem.W.Frag} {st : Stmt} {p y : Str} (hn : l.most = some n) (hn2 : n ≤ sizeLine) (hdf : d.params.defaults = []) (hr : Room (k + 1) callerA)
    (hrec : ((recsOf q).any fun e => e.name == y) = true) (hNT : ∀ w : World, PySem.W.noTabs (K w.params) = true) (hY : ∀ (w : World) (h : Heap), YP w h → (K w.params).In h)
    (F : ∀ (w : World) (mg : Str → Option Value) (fa : Addr) (h : Heap), (K w.params).In h → h.Ns mainGlobals mg → XP mg h → mg d.name = some (.ref fa) →
      ∃ (fy : Addr) (fd fdy : FuncData), (∀ (s : Shared) (u : Value), BindsTo s fd ⟨[u], []⟩ [(p, u)]) ∧ LawAtU l.prog w (K w.params) mg d.name st fa fd k n p y fy fdy) :
    PySem.W.WalkO q loose XP YP l.row.toRowW d [] (fun f vs => PySem.call f vs) := by
  refine Att.attach_call hn hdf fun w s0 s1 mg mb fa o pm cd doc a vs ns G Y _ _ _ hm ha hi hl hg => ?_
  have KX := hY w _ Y
  obtain ⟨fy, fd, fdy, hb, L⟩ := F w mg fa _ KX G.T.g G.X hm
  obtain ⟨dL, hd1, hd2⟩ := List.any_eq_true.mp hrec
  have en : dL.name = y := beq_iff_eq.mp hd2
  obtain ⟨a', o', fd', c, T0, t1, t2, t3, t4, t5, t6⟩ := G.T.tab dL hd1
  rw [en, L.gy] at t1
  cases t1
  obtain ⟨sty, Fy⟩ := L.fny
  obtain ⟨cl, od, kV, dc, pm2, an, cdv, ct, osl, efd, found, _⟩ := Fy.ex
  have e9 := KX _ _ found
  rw [t2] at e9
  cases e9
  cases t3
  have hT : s1.heap.get? T0 = some { cls := .none, data := .fields #[] } := t6.2
  have nT : (K w.params).lookup T0 = none := by
    cases e : (K w.params).lookup T0 with
    | none => rfl
    | some u =>
      have e1 := KX _ _ e
      rw [hT] at e1
      cases e1
      exact absurd (show false = true from List.all_eq_true.mp (hNT w) (T0, _) (PySem.W.mem_of_lookupK e)) Bool.false_ne_true
  exact law_fromU KX G.T.g G.T.b G.T.builtins G.T.nolimit hg ha hi hl hn2 hr L hb t4 (.of t5 t6) hT nT G.T.bmain
end Fw

set_option pp.maxSteps 400
/-! k68, 10: a world with draws and a table; picks among what may be a dict; what a caught error is. -/
namespace Sc
open PySem L2 Fw Wp Cd LamX
open PyProof.Rows (envOfC)
structure DrawTA (T0 : Addr) where
  dr : DrawA
  nd : T0 ≠ dr.d
  nl : T0 ≠ dr.l
def TWA (K : PySem.W.Frag) (T0 : Addr) (q : Str) (A : DrawTA T0) : Wd := TW K ⟨A.dr, T0, q, A.nd, A.nl⟩
theorem hasTabA (K : PySem.W.Frag) (T0 : Addr) (q : Str) (A : DrawTA T0) : HasTab (TWA K T0 q A) T0 q := hasTabT K ⟨A.dr, T0, q, A.nd, A.nl⟩
theorem lift_A {P : Program} {w : World} {K : PySem.W.Frag} {mg : Str → Option Value} {base : Heap} {T0 : Addr} {q : Str} {k : Nat} {f : Addr} {fd : FuncData} {ps : List Str} {Pre : List PyData → Prop} {Φ : List PyData → PyData → Prop} (F : FnOk P w K mg base CX0 k f fd ps (spU K (DW K) DrawA.d Pre Φ)) : FnOk P w K mg base CX0 k f fd ps (spU K (TWA K T0 q) (fun A => A.dr.d) Pre Φ) :=
  (lift_T F).imp fun vs H Q E ⟨A, ms, ds, ws, ev, sub, l, p, c, o, pre, k⟩ => ⟨⟨A.dr, T0, q, A.nd, A.nl⟩, ms, ds, ws, ev, sub, l, p, c, o, pre, k⟩
/-- what stays from H on -/
structure Ex (W : Wd) (ms : List Addr) (H H' : Hp) : Prop where
  x : XW W.ws H H'
  l : Live ms H'
  p : W.P H'
section
variable {W : Wd} {ms : List Addr} {H H1 H2 : Hp} {T0 L : Addr} {q : Str} {xs ys : List V}
theorem Ex.same (e : Ex W ms H H1) (s : Same H1 H2) : Ex W ms H H2 := ⟨e.x.trans (.of_same s), e.l.same s, W.sup _ _ (fun a _ o q => s a o q) (fun a f q => s a _ q) e.p⟩
theorem Ex.tab (hw : HasTab W T0 q) (e : Ex W ms H H1) (x : ExtP T0 H1 H2) (t : TabS H2 T0 q) : Ex W ms H H2 := ⟨e.x.trans (xw_ext hw x), fun a ha => by
  by_cases z : a = T0
  · obtain ⟨tb, t1, _⟩ := t
    exact ⟨_, by rw [z]; exact t1⟩
  · obtain ⟨o, q⟩ := e.l a ha
    exact ⟨o, x a o z q⟩, hw.put _ _ e.p x t⟩
theorem Ex.lst (e : Ex W ms H H1) (n : H L = none) (w : L ∉ W.ws) (q : H1 L = some (.lst xs)) : Ex W ms H (upd H1 L (.lst ys)) := ⟨fun a o nw z => by
    rw [upd_ne (fun y => by rw [y, n] at z; cases z)]
    exact e.x a o nw z, e.l.upd, W.sup _ _ (fun a ha o z => by rw [upd_ne (fun y : a = L => w (by rw [← y]; exact ha))]; exact z) (fun a f z => by rw [upd_ne (fun y => by rw [y, q] at z; cases z)]; exact z) e.p⟩
end
theorem kvf {X : Cx} {x : Str} {pos : Pos} (i : Nat) (hN : X.N[i]? = some x := by kernel_rfl) (hv : X.env.scope.names.lookup x = some .free := by kernel_rfl) (h1 : (x == ("__debug__" : Str)) = false := by kernel_rfl) (h2 : (x == ("__classdict__" : Str)) = false := by kernel_rfl) : PE X (.Name x pos) (tVar i) := pe_var hN (.inr (.inr hv)) h1 h2
theorem pe_weak {X : Cx} {e : Expr} {te : TE} (h : PE X e te) : PE X e (fun σ H Q' => ∃ Qk : VK, (∀ v H', Qk v H' → Q' v H') ∧ te σ H Qk) := ⟨fun pins s σ H Q' I ⟨Qk, m, z⟩ => wpAny_mono (h.run pins s σ H Qk I z) (fun u s2 ⟨v, H2, I2, r2, q2⟩ => ⟨v, H2, I2, r2, m v H2 q2⟩) fun _ _ z => z⟩
theorem caught_gives {X : Cx} (T : Txt X.K X.mg) {q : Str} {cdv : Value} : GivesTo X n_law_caught "_law_caught" (defScope s_law_caught) T.a_law_caught cdv (defBody s_law_caught) "work" q (TTk X.K T.cTenderError) := by
  intro f c' s H Q tl act hc h
  refine ⟨_, pss_cons (ksl 1 sc_law_caught.nd pe_non) (pss_cons (ps_try_keep (i := 2) (tb := fun W D σ H => ∃ Ech : XK, (∀ cls d σ' H', Ech cls d H' → (σ'.length = 3 → W cls d σ' H')) ∧ σ[0]? = some (some (.ref f)) ∧ H c' = some (CodeO c' q) ∧ tl Ech H (fun _ H' => Q .non H') ∧ ∀ H', Q .non H' → D.nx σ H') rfl rfl rfl sc_law_caught.nd (by kernel_rfl) (by kernel_rfl) ⟨rfl, (by kernel_rfl), Or.inl T.g_TenderError⟩ (fun W pn xe tk => ?_) (fun a oe pn => pss_one (ksl 1 sc_law_caught.nd (kvl 2)))) (pss_one (ps_ret (kvl 1)))), ?_⟩
  · refine ⟨fun pins s' σ H' D I h' => ?_⟩
    obtain ⟨Ech, hW, h1, h2, h3, h4⟩ := h'
    have hp := fun p1 p2 => pe_weak (act _ pn xe Ech p1 p2 (takes_len (n := 3) rfl tk) hW)
    exact (pss_one (kexpr (hp _ _))).run pins s' σ H' D I ⟨_, fun v H' z => h4 H' z, h1, h2, h3⟩
  · refine ⟨fun cls d H' => PySem.W.exmOne X.K cls (.ref T.cTenderError) = some true ∧ d = none ∧ ∀ a, H' a = none → Q (.ref a) (upd H' a (ExK cls a)), fun cls d σ' H' ⟨k1, k2, k3⟩ ln => ⟨k1, k2, fun a na => ?_⟩, rfl, hc, h, fun H' z => ⟨.non, rfl, z⟩⟩
    refine ⟨.ref a, List.getElem?_set_self (by omega), ?_⟩
    refine ⟨.ref a, ?_, k3 a na⟩
    rw [List.getElem?_set_ne (by decide), List.getElem?_set_self (by rw [List.length_set]; omega)]
theorem pe_caught {X : Cx} (T : Txt X.K X.mg) {m P : Addr} {k : Nat} {ar : Arguments} {el : Expr} {sc : Scope} {t : XK → TE} {p lp pos : Pos} (B : TabB X.base X.mg m P) (em : X.env.code = .ref m) (hr : Room (k + 2) X.A) (hg : Gl X "_law_caught") (L : LamS X.env.scope sc) (ed : defaultsOf ar X.env = ([], []))
    (hbd : ∀ (q : Str) (cl : List (Str × Addr)) (u v w : Value), bindArgs (PySem.W.kla_fn "<lambda>" q ar el sc cl u v w) ⟨[], []⟩ = pure [])
    (body : ∀ (A : Around) (outer : List Env) (s : Shared) (H : Hp) (E : XK) (f d : Addr), Room k (A.deeper (lamEnv X sc s.heap.objs.size f d)) → PE (lamCx X A outer s H E sc f d) el (t E)) :
    PE X (.Call (.Name "_law_caught" p) [.Lambda ar el sc lp] [] pos) (tLamP P (X.env.qual ++ "<lambda>") (TTk X.K T.cTenderError) t) :=
  pe_lamP T.F_law_caught hg T.g__law_caught T.k__law_caught T.b__law_caught sc_law_caught rfl (.inl (by kernel_rfl)) (fun cdv => caught_gives T) B em hr L ed hbd body

theorem Ex.refl {W : Wd} {ms : List Addr} {H : Hp} (l : Live ms H) (p : W.P H) : Ex W ms H H := ⟨.refl H, l, p⟩
theorem Ex.trans {W : Wd} {ms : List Addr} {H H1 H2 : Hp} (a : Ex W ms H H1) (b : Ex W ms H1 H2) : Ex W ms H H2 := ⟨a.x.trans b.x, b.l, b.p⟩
section
variable {P : Program} {w : World} {K : PySem.W.Frag} {mg : Str → Option Value} {base : Heap} {W : Wd} {ms : List Addr} {H : Hp} {σ : L2.St} {T0 c CS CN : Addr} {q : Str} {tb : XK → TE}
/-- a call that is caught: it raises an error of class c -/
theorem caught_te {Q : VK} (hw : HasTab W T0 q) (lv : Live ms H) (p : W.P H) (exm : PySem.W.exmOne K (.ref c) (.ref CS) = some true)
    (act : ∀ H1, Ex W ms H H1 → ∀ (E : XK) (Q' : VK), (∀ H2, Same H1 H2 → E (.ref c) none H2) → tb E σ H1 Q')
    (k : ∀ a H3, Ex W ms H H3 → H3 a = some (ExK (.ref c) a) → Q (.ref a) H3) : tLamP T0 q (TTk K CS) tb σ H Q :=
  ⟨hw.tab _ p, fun H1 e1 t1 => by
    have ex1 : Ex W ms H H1 := (Ex.refl lv p).tab hw e1 t1
    exact act H1 ex1 _ _ fun H2 s2 => ⟨exm, rfl, fun a na => k a _ ((ex1.same s2).same (same_put na)) upd_same⟩⟩
/-- isinstance(caught(lambda: ..), C) -/
theorem isx_te {Q : VK} (hw : HasTab W T0 q) (lv : Live ms H) (p : W.P H) (exm : PySem.W.exmOne K (.ref c) (.ref CS) = some true) (xc : ExcC K c) (kt : PySem.W.kitOne K (.ref c) (.ref CN) = some true)
    (act : ∀ H1, Ex W ms H H1 → ∀ (E : XK) (Q' : VK), (∀ H2, Same H1 H2 → E (.ref c) none H2) → tb E σ H1 Q')
    (k : ∀ H3, Ex W ms H H3 → Q (.bl true) H3) : tCB (rIsX K) (tCons (tLamP T0 q (TTk K CS) tb) (tCons (tC (.ref CN)) tNil)) σ H Q :=
  caught_te hw lv p exm act fun a H3 e3 ha => .inr ⟨a, c, .ref CN, .ref CN, true, rfl, ha, xc, .own CN, kt, k H3 e3⟩
/-! ### picks -/
def spPk {α : Type} (U : α → Wd) (rt : α → Addr) : Sp := fun vs H Q _ => ∃ (A : α) (ms : List Addr) (L : Addr) (us : List V), vs = [.ref (rt A), .ref L] ∧ (∀ a ∈ (U A).ws, a ∈ ms) ∧ Live ms H ∧ (U A).P H ∧ (U A).C (cut ms H) ∧ L ∉ (U A).ws ∧ H L = some (.lst us) ∧ us ≠ [] ∧ us.length ≤ 100000 ∧
  ∀ u ∈ us, ∀ H', Ex (U A) ms H H' → Q u H'
theorem ok_pick_raw {α : Type} {U : α → Wd} {rt : α → Addr} (T : Txt K mg) (Ft : FnOk P w K mg base CX0 2 T.a_law_take T.d_law_take ["draw", "many"] (spU K U rt Pt Gt)) : FnOk P w K mg base CX0 3 T.a_law_pick T.d_law_pick ["draw", "some"] (spPk U rt) := by
  refine T.F_law_pick.ok sc_law_pick (fun vs H Q E h => ?_) fun cdv A outer s H vs Q E hr h => ⟨_, (pss_one (ps_ret (pe_ix (r := rIxL K) ix_list (kvl 1) (kcall Ft (hr.mono (by decide)) T.g__law_take T.k__law_take T.b__law_take (kpa (kvl 0) (kpa (kB (r := rLenQ K) call_len_seq T.n_len (kpa (kvl 1) pa_nil)) pa_nil))) (fun _ _ => rfl)))), ?_⟩
  · obtain ⟨_, _, _, _, rfl, _⟩ := h
    rfl
  · obtain ⟨B, ms, L, us, rfl, wm, lv, p, C, nL, eL, ne, lu, k⟩ := h
    have pos : 0 < us.length := List.length_pos_iff.mpr ne
    refine ⟨.ref L, rfl, .ref (rt B), rfl, .ref L, rfl, L, us, rfl, .inl (SqL.of eL), ?_⟩
    refine ⟨B, ms, [.int us.length], [.int us.length], rfl, wm, lv, p, C, .cons (.int _) .nil, ⟨us.length, by omega, (Nb.of (n := 17) (by omega) (Int.lt_of_le_of_lt (b := 100000) (by omega) (by decide))).mono (by decide), rfl⟩, fun d v H' hd x l' p' od => ?_⟩
    obtain ⟨m, z, e1, rfl, z0, z1⟩ := hd
    cases e1
    cases od
    obtain ⟨j, rfl⟩ : ∃ j : Nat, z = (j : Int) := ⟨z.toNat, by omega⟩
    have lt : j < us.length := by omega
    exact ⟨L, us, j, us[j], rfl, rfl, SqL.of (x L _ nL eL), atI_nat (List.getElem?_eq_getElem lt), k _ (List.getElem_mem lt) H' ⟨x, l', p'⟩⟩
/-! ### which error it was -/
def spIk (K : PySem.W.Frag) (C1 C2 C3 : Addr) : Sp := fun vs H Q _ => ∃ (a c : Addr) (s : Str) (b1 b2 b3 : Bool), vs = [.ref a, .str s] ∧ H a = some (ExK (.ref c) a) ∧ ExcC K c ∧ PySem.W.kitOne K (.ref c) (.ref C1) = some b1 ∧ PySem.W.kitOne K (.ref c) (.ref C2) = some b2 ∧ PySem.W.kitOne K (.ref c) (.ref C3) = some b3 ∧
  Q (.bl (if s = "formula" then b1 else if s = "field" then b2 else b3)) H
theorem ok_law_is_kind (T : Txt K mg) : FnOk P w K mg base CX0 1 T.a_law_is_kind T.d_law_is_kind ["caught", "kind"] (spIk K T.cBadFormula T.cBadField T.cBadIndex) := by
  refine T.F_law_is_kind.ok sc_law_is_kind (fun vs H Q E h => ?_) fun cdv A outer s H vs Q E hr h => ⟨_, (pss_cons (ps_if (pt_cmpR op_eq (kvl 1) pe_str (nomark _)) (pss_one (ps_ret (kB (r := rIsX K) call_isX T.n_isinstance (kpa (kvl 0) (kpa (kgc' (v := .ref T.cBadFormula) ⟨_, T.g_BadFormula, rfl⟩) pa_nil))))) pss_nil)
      (pss_one (ps_ret (pe_ifExp (pt_cmpR op_eq (kvl 1) pe_str (nomark _)) (kB (r := rIsX K) call_isX T.n_isinstance (kpa (kvl 0) (kpa (kgc' (v := .ref T.cBadField) ⟨_, T.g_BadField, rfl⟩) pa_nil))) (kB (r := rIsX K) call_isX T.n_isinstance (kpa (kvl 0) (kpa (kgc' (v := .ref T.cBadIndex) ⟨_, T.g_BadIndex, rfl⟩) pa_nil))))))), ?_⟩
  · obtain ⟨_, _, _, _, _, _, rfl, _⟩ := h
    rfl
  · obtain ⟨a, c, s, b1, b2, b3, rfl, ha, xc, k1, k2, k3, q⟩ := h
    refine ⟨.str s, rfl, rfl, decide (V.str s = V.str "formula"), rfl, ?_⟩
    rw [Fw.dec_str]
    by_cases e1 : s = "formula"
    · rw [if_pos e1] at q
      rw [decide_eq_true e1]
      exact iteT ⟨.ref a, rfl, .inr ⟨a, c, .ref T.cBadFormula, .ref T.cBadFormula, b1, rfl, ha, xc, .own _, k1, q⟩⟩
    · rw [if_neg e1] at q
      rw [decide_eq_false e1]
      refine iteF ?_
      refine ⟨.str s, rfl, rfl, decide (V.str s = V.str "field"), rfl, ?_⟩
      rw [Fw.dec_str]
      by_cases e2 : s = "field"
      · rw [if_pos e2] at q
        rw [decide_eq_true e2]
        exact iteT ⟨.ref a, rfl, .inr ⟨a, c, .ref T.cBadField, .ref T.cBadField, b2, rfl, ha, xc, .own _, k2, q⟩⟩
      · rw [if_neg e2] at q
        rw [decide_eq_false e2]
        exact iteF ⟨.ref a, rfl, .inr ⟨a, c, .ref T.cBadIndex, .ref T.cBadIndex, b3, rfl, ha, xc, .own _, k3, q⟩⟩
end
end Sc

set_option pp.maxSteps 400
/-! k68, 11: lists in which an empty dict may stand. -/
namespace Sc
open PySem L2 Fw Wp Cd LamX
open PyProof.Rows (envOfC)
section
variable {K : PySem.W.Frag} {W : Wd} {ρ : List Sl} {te : TE} {tA : TA} {d : PyData} {ds : List PyData} {as : List (Option PyData)} {H : Hp}
def EvM (K : PySem.W.Frag) (W : Wd) (ta : TA) (ρ : List Sl) (as : List (Option PyData)) : Prop := ∀ (ms : List Addr) (B : Bs) (σ : L2.St) (H : Hp), At K W ms B ρ σ H → ∀ Q : List V → Hp → Prop,
  (∀ vs od H', At K W ms B ρ σ H' → XW W.ws H H' → AgAll K (cut ms H') od vs as → (∀ D, od = some D → cut ms H' D = some (.dK [])) → Q vs H') → ta σ H Q
theorem ags_of {od : Option Addr} : ∀ {vs : List V} {ds : List PyData}, DpAll K H vs ds → AgAll K H od vs (ds.map some)
  | _, [], h => by cases h; exact .nil
  | _, d :: ds, h => by cases h with | cons h1 h2 => exact .cons (.dat h1) (ags_of h2)
theorem evm_nil : EvM K W tNil ρ [] := fun ms B σ H a Q q => q [] none H a (.refl H) .nil fun D e => nomatch e
theorem evm_cons (h : Evd K W te ρ d) (t : EvM K W tA ρ as) : EvM K W (tCons te tA) ρ (some d :: as) := fun ms B σ H a Q q =>
  h ms B σ H a _ fun v H1 h1 x1 o1 => t ms B σ H1 h1 _ fun vs od H2 h2 x2 o2 hD => q (v :: vs) od H2 h2 (x1.trans x2) (.cons (.dat (dp_mono (x2.cut h2.sub) _ _ o1)) o2) hD
theorem evm_dict (h : EvD K W tA ρ ds) : EvM K W (tCons tDNewK tA) ρ (none :: ds.map some) := fun ms B σ H a Q q p hp =>
  h ms B σ _ (a.same (same_put hp)) _ fun vs H2 h2 x2 o2 => q (.ref p :: vs) (some p) H2 h2 ((XW.of_same (same_put hp)).trans x2) (.cons (.dct rfl) (ags_of o2)) fun D e => by
    cases e
    rw [cut_out (a.fresh hp).2.1]
    exact x2 p _ (a.fresh hp).2.2 upd_same
theorem ag_mem {od : Option Addr} : ∀ {vs : List V} {as : List (Option PyData)}, AgAll K H od vs as → ∀ {u : V}, u ∈ vs → ∃ a ∈ as, Ag K H od u a
  | _, _, .nil, u, h => nomatch h
  | _, _, .cons h t, u, hu => by
    rcases List.mem_cons.mp hu with e | e
    · rw [e]
      exact ⟨_, List.mem_cons_self, h⟩
    · obtain ⟨a, ha, g⟩ := ag_mem t e
      exact ⟨a, List.mem_cons_of_mem _ ha, g⟩
variable {α : Type} {U : α → Wd} {rt : α → Addr} {i : Nat} {E : XK}
/-- _law_pick(draw, [..]) -/
theorem en_pickM {A : α} {ms : List Addr} {B : Bs} {σ : L2.St} (h : ρ[i]? = some (.raw (.ref (rt A)))) (hm : EvM K (U A) tA ρ as) (hn : as ≠ []) (hl : as.length ≤ 1000) (g : At K (U A) ms B ρ σ H) {Q : VK}
    (q : ∀ v a od H', a ∈ as → At K (U A) ms B ρ σ H' → XW (U A).ws H H' → Ag K (cut ms H') od v a → (∀ D, od = some D → cut ms H' D = some (.dK [])) → Q v H') : tCall (spPk U rt) [] E (tCons (tVar i) (tCons (tLst tA) tNil)) σ H Q := by
  obtain ⟨v, ev, ov⟩ := g.env.get h (by intro q; cases q)
  obtain rfl : v = .ref (rt A) := ov
  refine ⟨_, ev, ?_⟩
  refine hm ms B σ H g _ fun vs od H1 g1 x1 o1 hD => ?_
  have lv : vs.length = as.length := o1.len
  refine ⟨by rw [lv]; exact Nat.le_trans hl (by decide), fun p hp => ?_⟩
  have s2 : Same H1 (upd H1 p (.lst vs)) := same_put hp
  have g2 := g1.same s2
  refine ⟨A, ms, p, vs, rfl, g1.sub, g2.live, g2.p, g2.c, (g1.fresh hp).2.2, upd_same, fun e => hn (by rw [e] at lv; exact List.eq_nil_of_length_eq_zero lv.symm), by omega, fun u hu H' ex => ?_⟩
  obtain ⟨a, ha, ag⟩ := ag_mem o1 hu
  have sm : Same (cut ms H1) (cut ms H') := ((XW.of_same s2).trans ex.x).cut g1.sub
  exact q u a od H' ha (g2.go ex.x ex.l ex.p) (x1.trans ((XW.of_same s2).trans ex.x)) (ag.mono sm) fun D e => sm _ _ (hD D e)
end
end Sc

set_option pp.maxSteps 400
/-! k68, 12: the first wrong parameter is refused first. -/
namespace Sc
open PySem L2 Fw Wp Cd LamX
open PyProof.Rows (envOfC)
abbrev qRef : Str := (envOfC "_law_refused" (defScope s_law_refused) 0 0 .none).qual ++ "<lambda>"
theorem Ex.go0 {W : Wd} {ms : List Addr} {H H' : Hp} (sub : ∀ a ∈ W.ws, a ∈ ms) (e : Ex W ms H H') : Same (cut ms H) (cut ms H') := e.x.cut sub
/-- what is at hand -/
structure Fa (K : PySem.W.Frag) (W : Wd) (ms : List Addr) (x y b : PyData) (a : Option PyData) (od : Option Addr) (v1 v2 vb vw : V) (H : Hp) : Prop where
  l : Live ms H
  p : W.P H
  c : W.C (cut ms H)
  o1 : Dp K (cut ms H) v1 x
  o2 : Dp K (cut ms H) v2 y
  ob : Dp K (cut ms H) vb b
  ow : Ag K (cut ms H) od vw a
  hD : ∀ D, od = some D → cut ms H D = some (.dK [])
theorem Fa.go {K : PySem.W.Frag} {W : Wd} {ms : List Addr} {x y b : PyData} {a : Option PyData} {od : Option Addr} {v1 v2 vb vw : V} {H H' : Hp} (sub : ∀ a ∈ W.ws, a ∈ ms) (f : Fa K W ms x y b a od v1 v2 vb vw H) (e : Ex W ms H H') : Fa K W ms x y b a od v1 v2 vb vw H' :=
  have s := e.go0 sub
  ⟨e.l, e.p, W.mono _ _ s f.c, dp_mono s _ _ f.o1, dp_mono s _ _ f.o2, dp_mono s _ _ f.ob, f.ow.mono s, fun D q => s _ _ (f.hD D q)⟩
theorem rx1 {K : PySem.W.Frag} {O : List PyData → Out → Prop} {ms : List Addr} {H : Hp} {v : V} {b : PyData} {c : Addr} {Q : VK} {E : XK} (lv : Live ms H) (ob : Dp K (cut ms H) v b) (ho : O [b] (.no c)) (hE : ∀ H2, Same H H2 → E (.ref c) none H2) : spX K O [v] H Q E :=
  ⟨ms, [b], .no c, lv, .cons ob .nil, ho, (fun d e => nomatch e), (fun c' e H2 s2 => by cases e; exact hE H2 s2), fun c f d e => nomatch e⟩
theorem ry {K : PySem.W.Frag} {O : List (Option PyData) → Out → Prop} {ms : List Addr} {H : Hp} {vs : List V} {as : List (Option PyData)} {od : Option Addr} {c : Addr} {Q : VK} {E : XK} (lv : Live ms H) (hD : ∀ D, od = some D → cut ms H D = some (.dK [])) (oa : AgAll K (cut ms H) od vs as) (ho : O as (.no c)) (hE : ∀ H2, Same H H2 → E (.ref c) none H2) : spY K O vs H Q E :=
  ⟨ms, od, as, .no c, lv, hD, oa, ho, (fun d e => nomatch e), fun c' e H2 s2 => by cases e; exact hE H2 s2⟩
theorem set_same {α : Type} (l : List α) (i : Nat) (a b : α) : (l.set i a).set i b = l.set i b := by rw [List.set_set]
theorem given3 {K : PySem.W.Frag} {t : Addr} {a b c : V} {σ : L2.St} {H : Hp} {i : Nat} {Q : List V → Hp → Prop} (hs : σ[i]? = some (some (.ref t))) (hT : SqT K H t [a, b, c]) (q : Q [a, b, c] H) : tCons (tOp (rIxT K) (tVar i) (tC (.int 0))) (tCons (tOp (rIxT K) (tVar i) (tC (.int 1))) (tCons (tOp (rIxT K) (tVar i) (tC (.int 2))) tNil)) σ H Q :=
  ⟨.ref t, hs, t, _, 0, a, rfl, rfl, hT, rfl, .ref t, hs, t, _, 1, b, rfl, rfl, hT, rfl, .ref t, hs, t, _, 2, c, rfl, rfl, hT, rfl, q⟩
theorem given4 {K : PySem.W.Frag} {t : Addr} {a b c d : V} {σ : L2.St} {H : Hp} {i j : Nat} {Q : List V → Hp → Prop} (hs : σ[i]? = some (some (.ref t))) (hj : σ[j]? = some (some d)) (hT : SqT K H t [a, b, c]) (q : Q [a, b, c, d] H) : tCons (tOp (rIxT K) (tVar i) (tC (.int 0))) (tCons (tOp (rIxT K) (tVar i) (tC (.int 1))) (tCons (tOp (rIxT K) (tVar i) (tC (.int 2))) (tCons (tVar j) tNil))) σ H Q :=
  ⟨.ref t, hs, t, _, 0, a, rfl, rfl, hT, rfl, .ref t, hs, t, _, 1, b, rfl, rfl, hT, rfl, .ref t, hs, t, _, 2, c, rfl, rfl, hT, rfl, d, hj, q⟩
/-- a walk over a list that stays, its items put into one slot -/
theorem for_refs {K : PySem.W.Frag} {L : Addr} {vs : List V} {i : Nat} {tb : TS} {D : Ends} {σ : L2.St} {Hb : Hp} (J : Hp → Prop) (o0 : Option V) (e0 : σ = σ.set i o0) (hL : ∀ H, J H → SqL K H L vs) (j0 : J Hb)
    (step : ∀ v ∈ vs, ∀ H, J H → ∀ N : L2.St → Hp → Prop, (∀ H', J H' → N (σ.set i (some v)) H') → tb { D with nx := N, ct := N, bk := D.nx } (σ.set i (some v)) H) (done : ∀ o H, J H → D.nx (σ.set i o) H) :
    ∃ W : Nat → Nat → L2.St → Hp → Prop, (∃ m, W 0 m σ Hb) ∧ ∀ k m σ H, W k m σ H →
      ((Itl K L).stop k H ∧ D.nx σ H) ∨ ((Itl K L).go k H ∧ ∃ N : L2.St → Hp → Prop, (∀ σ' H', N σ' H' → ∃ m', m' < m ∧ W (k + 1) m' σ' H') ∧ ∀ x H', (Itl K L).yld k H x H' → gName i x σ H' fun σ2 H2 => tb { D with nx := N, ct := N, bk := D.nx } σ2 H2) :=
  for_list (xs := vs) (fun _ σ' H => (∃ o, σ' = σ.set i o) ∧ J H) ⟨⟨o0, e0⟩, j0⟩ (fun _ _ H _ h => hL H h.2) (fun k x σ' H hx ⟨⟨o, e⟩, j⟩ => by
    subst e
    show tb _ ((σ.set i o).set i (some x)) H
    rw [set_same]
    exact step x (List.mem_of_getElem? hx) H j _ fun H' j' => ⟨⟨_, rfl⟩, j'⟩) fun σ' H ⟨⟨o, e⟩, j⟩ => by
    subst e
    exact done o H j
theorem for_pairs {K : PySem.W.Frag} {L : Addr} {vs : List V} {i j : Nat} {tb : TS} {D : Ends} {σ : L2.St} {Hb : Hp} (hij : i ≠ j) (J : Hp → Prop) (o0 o1 : Option V) (e0 : σ = (σ.set i o0).set j o1) (hL : ∀ H, J H → SqL K H L vs) (j0 : J Hb)
    (step : ∀ v ∈ vs, ∀ H, J H → ∃ (t : Addr) (a c : V), v = .ref t ∧ SqT K H t [a, c] ∧ ∀ N : L2.St → Hp → Prop, (∀ H', J H' → N ((σ.set i (some a)).set j (some c)) H') → tb { D with nx := N, ct := N, bk := D.nx } ((σ.set i (some a)).set j (some c)) H) (done : ∀ o o' H, J H → D.nx ((σ.set i o).set j o') H) :
    ∃ W : Nat → Nat → L2.St → Hp → Prop, (∃ m, W 0 m σ Hb) ∧ ∀ k m σ H, W k m σ H →
      ((Itl K L).stop k H ∧ D.nx σ H) ∨ ((Itl K L).go k H ∧ ∃ N : L2.St → Hp → Prop, (∀ σ' H', N σ' H' → ∃ m', m' < m ∧ W (k + 1) m' σ' H') ∧ ∀ x H', (Itl K L).yld k H x H' → gTup K 2 (gCons (gName i) (gCons (gName j) gNil)) x σ H' fun σ2 H2 => tb { D with nx := N, ct := N, bk := D.nx } σ2 H2) :=
  for_list (xs := vs) (fun _ σ' H => (∃ o o', σ' = (σ.set i o).set j o') ∧ J H) ⟨⟨o0, o1, e0⟩, j0⟩ (fun _ _ H _ h => hL H h.2) (fun k x σ' H hx ⟨⟨o, o', e⟩, jh⟩ => by
    subst e
    obtain ⟨t, a, c, rfl, hT, go⟩ := step x (List.mem_of_getElem? hx) H jh
    refine ⟨t, [a, c], rfl, hT, rfl, a, [c], rfl, c, [], rfl, rfl, ?_⟩
    show tb _ ((((σ.set i o).set j o').set i (some a)).set j (some c)) H
    rw [List.set_comm o' (some a) (Ne.symm hij), List.set_set, List.set_set]
    exact go _ fun H' j' => ⟨⟨_, _, rfl⟩, j'⟩) fun σ' H ⟨⟨o, o', e⟩, jh⟩ => by
    subst e
    exact done o o' H jh
/-- if not _law_is_kind(caught(lambda: ..), kind): return False -/
theorem kind_te {K : PySem.W.Frag} {W : Wd} {ms : List Addr} {H : Hp} {σ : L2.St} {T0 c CS C1 C2 C3 : Addr} {q : Str} {tb : XK → TE} {ik : Nat} {s : Str} {b1 b2 b3 : Bool} {D : Ends} {u : TS} {E0 : XK} (hw : HasTab W T0 q) (lv : Live ms H) (p : W.P H) (exm : PySem.W.exmOne K (.ref c) (.ref CS) = some true) (xc : ExcC K c)
    (k1 : PySem.W.kitOne K (.ref c) (.ref C1) = some b1) (k2 : PySem.W.kitOne K (.ref c) (.ref C2) = some b2) (k3 : PySem.W.kitOne K (.ref c) (.ref C3) = some b3) (hs : σ[ik]? = some (some (.str s))) (hb : (if s = "formula" then b1 else if s = "field" then b2 else b3) = true)
    (act : ∀ H1, Ex W ms H H1 → ∀ (E : XK) (Q' : VK), (∀ H2, Same H1 H2 → E (.ref c) none H2) → tb E σ H1 Q') (k : ∀ H3, Ex W ms H H3 → D.nx σ H3) :
    tIfS (tNot (tB (tCall (spIk K C1 C2 C3) [] E0 (tCons (tLamP T0 q (TTk K CS) tb) (tCons (tVar ik) tNil))))) u tNext D σ H :=
  caught_te hw lv p exm act fun a H3 e3 ha => ⟨.str s, hs, a, c, s, b1, b2, b3, rfl, ha, xc, k1, k2, k3, true, by rw [hb], iteF (k H3 e3)⟩
section
variable {P : Program} {w : World} {K : PySem.W.Frag} {mg : Str → Option Value} {base : Heap}
def Prf (ds : List PyData) : Prop := ∃ x xs, formB x = true ∧ fieldB (.list xs) = true ∧ ds = [x, .list xs]
def Gtr (_ : List PyData) (d : PyData) : Prop := d = .bool true
theorem ok_law_refused (T : Txt K mg) {m T0 : Addr} (TB : TabB base mg m T0) (ec : T.d_law_refused.code = .ref m) : FnOk P w K mg base CX0 14 T.a_law_refused T.d_law_refused ["draw", "formula", "field"] (spU K (TWA K T0 qRef) (fun A => A.dr.d) Prf Gtr) := by
  obtain ⟨oc, od, kV, dc, pm, an, cdv, ct, osl, efd, lk, hcd⟩ := T.F_law_refused.ex
  have em0 : cdv = .ref m := by rw [efd] at ec; exact ec
  rw [efd] at lk ⊢
  refine fn_of lk hcd sc_law_refused (fun vs H Q E h => ?_) fun A outer s H vs Q E hr h => ?_
  · obtain ⟨A, ms, ds, ws, rfl, _, _, _, _, o, ⟨_, _, _, _, rfl⟩, _⟩ := h
    rw [List.length_cons, dpa_len o]
    rfl
  · obtain ⟨B, ms, ds, ws, rfl, sub, lv, p, c, o, ⟨x, xs, hx, hf, rfl⟩, k⟩ := h
    have em : (cxOf CX0 P w K mg base n_law_refused "_law_refused" (defScope s_law_refused) T.a_law_refused cdv A outer s H E).nox.env.code = .ref m := em0
    have hw := hasTabA K T0 qRef B
    have kQ : ∀ H', Ex (TWA K T0 qRef B) ms H H' → Q (.bl true) H' := fun H' ex => k (.bool true) (.bl true) H' rfl ex.x ex.l ex.p (.bl true)
    refine ⟨_, PSs.nox ((pss_cons (kasg (pe_tup (kpa (kcall (ok_pick_raw T (lift_A (T0 := T0) (q := qRef) (drU_law_take T))) (hr.mono (by decide)) T.g__law_pick T.k__law_pick T.b__law_pick (kpa (kvl 0) (kpa (pe_lst (kpa pe_non (kpa pe_int (kpa (pe_lst (kpa (pe_tup (kpa pe_str (kpa pe_int pa_nil))) pa_nil)) (kpa (pe_tup (kpa (pe_tup (kpa pe_str (kpa pe_int pa_nil))) pa_nil)) pa_nil))))) pa_nil))) (kpa (kcall (ok_pick_raw T (lift_A (T0 := T0) (q := qRef) (drU_law_take T))) (hr.mono (by decide)) T.g__law_pick T.k__law_pick T.b__law_pick (kpa (kvl 0) (kpa (pe_lst (kpa pe_non (kpa pe_int (kpa pe_str (kpa pe_dnewK (kpa (pe_lst (kpa pe_non pa_nil)) (kpa (pe_lst (kpa (pe_tup (kpa pe_str (kpa pe_int (kpa (pe_tup (kpa pe_int (kpa pe_int (kpa pe_int (kpa pe_int pa_nil))))) pa_nil)))) pa_nil)) pa_nil))))))) pa_nil))) pa_nil))) (kgt (n := 2) (by rfl) (kgs (kgc 3 sc_law_refused.nd) (kgs (kgc 4 sc_law_refused.nd) pgs_nil))))
      (pss_cons (ps_for PassesOwn.never rfl (show PI _ _ _ (iList K _) from pi_list (pe_lst (kpa (kgc' (v := .ref T.amark_weights) ⟨_, T.g_mark_weights, rfl⟩) (kpa (kgc' (v := .ref T.arelative_weights) ⟨_, T.g_relative_weights, rfl⟩) (kpa (kgc' (v := .ref T.aleast_mark_sum) ⟨_, T.g_least_mark_sum, rfl⟩) (kpa (kgc' (v := .ref T.apasses) ⟨_, T.g_passes, rfl⟩) (kpa (kgc' (v := .ref T.aturn) ⟨_, T.g_turn, rfl⟩) pa_nil))))))) (kgc 5 sc_law_refused.nd) (pss_one (ps_if (pt_not (kval (kB (r := rIsX K) call_isX T.n_isinstance (kpa (pe_caught (k := 9) T TB em (hr.mono (by decide)) rfl (LamX.lamS_by (by kernel_rfl)) rfl (fun _ _ _ _ _ => rfl) (fun A outer s H E f d hr => (pe_callV (i := 5) (P := P) (w := w) (K := K) (mg := mg) (base := base) (CX := L2.CX P w) rfl rfl rfl rfl rfl hr rfl (.inr (.inr (by kernel_rfl))) (fun σ => passAt (takes_of rfl rfl rfl rfl) σ) (kpa (kvf 3) pa_nil)))) (kpa (kgc' (v := .ref T.cBadFormula) ⟨_, T.g_BadFormula, rfl⟩) pa_nil))))) (pss_one (ps_ret pe_bl)) pss_nil)))
      (pss_cons (ps_for PassesOwn.never rfl (show PI _ _ _ (iList K _) from pi_list (pe_lst (kpa (kgc' (v := .ref T.ascores) ⟨_, T.g_scores, rfl⟩) (kpa (kgc' (v := .ref T.aranking) ⟨_, T.g_ranking, rfl⟩) (kpa (kgc' (v := .ref T.aspoilers) ⟨_, T.g_spoilers, rfl⟩) (kpa (kgc' (v := .ref T.afirst_spoilers) ⟨_, T.g_first_spoilers, rfl⟩) pa_nil)))))) (kgc 5 sc_law_refused.nd) (pss_one (ps_if (PW.pt (pw_or (pt_not (kval (kB (r := rIsX K) call_isX T.n_isinstance (kpa (pe_caught (k := 9) T TB em (hr.mono (by decide)) rfl (LamX.lamS_by (by kernel_rfl)) rfl (fun _ _ _ _ _ => rfl) (fun A outer s H E f d hr => (pe_callV (i := 5) (P := P) (w := w) (K := K) (mg := mg) (base := base) (CX := L2.CX P w) rfl rfl rfl rfl rfl hr rfl (.inr (.inr (by kernel_rfl))) (fun σ => passAt (takes_of rfl rfl rfl rfl) σ) (kpa (kvf 3) (kpa (kvf 4) pa_nil))))) (kpa (kgc' (v := .ref T.cBadFormula) ⟨_, T.g_BadFormula, rfl⟩) pa_nil))))) (pw_or1 (pt_not (kval (kB (r := rIsX K) call_isX T.n_isinstance (kpa (pe_caught (k := 9) T TB em (hr.mono (by decide)) rfl (LamX.lamS_by (by kernel_rfl)) rfl (fun _ _ _ _ _ => rfl) (fun A outer s H E f d hr => (pe_callV (i := 5) (P := P) (w := w) (K := K) (mg := mg) (base := base) (CX := L2.CX P w) rfl rfl rfl rfl rfl hr rfl (.inr (.inr (by kernel_rfl))) (fun σ => passAt (takes_of rfl rfl rfl rfl) σ) (kpa (kvf 1) (kpa (kvf 4) pa_nil))))) (kpa (kgc' (v := .ref T.cBadField) ⟨_, T.g_BadField, rfl⟩) pa_nil)))))))) (pss_one (ps_ret pe_bl)) pss_nil)))
      (pss_cons (ps_if (pt_not (kval (kB (r := rIsX K) call_isX T.n_isinstance (kpa (pe_caught (k := 9) T TB em (hr.mono (by decide)) rfl (LamX.lamS_by (by kernel_rfl)) rfl (fun _ _ _ _ _ => rfl) (fun A outer s H E f d hr => (pe_callS (okis_turn T) (hr.mono (by decide)) rfl T.g_is_turn T.k_is_turn T.b_is_turn (fun σ => passAt (takes_of rfl rfl rfl rfl) σ) (kpa (kvf 3) (kpa (kvf 4) pa_nil)) (by kernel_rfl) (by kernel_rfl) (by kernel_rfl)))) (kpa (kgc' (v := .ref T.cBadFormula) ⟨_, T.g_BadFormula, rfl⟩) pa_nil))))) (pss_one (ps_ret pe_bl)) pss_nil)
      (pss_cons (ksc 6 sc_law_refused.nd (kcall (ok_pick_raw T (lift_A (T0 := T0) (q := qRef) (drU_law_take T))) (hr.mono (by decide)) T.g__law_pick T.k__law_pick T.b__law_pick (kpa (kvl 0) (kpa (pe_lst (kpa (pe_un un_neg pe_int) (kpa (kB (r := rLenQ K) call_len_seq T.n_len (kpa (kvc 2) pa_nil)) (kpa pe_non (kpa pe_bl (kpa pe_str pa_nil)))))) pa_nil))))
      (pss_cons (ps_for PassesOwn.never rfl (show PI _ _ _ (iList K _) from pi_list (pe_lst (kpa (pe_tup (kpa pe_str (kpa (pe_tup (kpa (kvc 3) (kpa (kvc 4) (kpa (kvc 6) pa_nil)))) pa_nil))) (kpa (pe_tup (kpa pe_str (kpa (pe_tup (kpa (kvc 1) (kpa (kvc 4) (kpa (kvc 6) pa_nil)))) pa_nil))) (kpa (pe_tup (kpa pe_str (kpa (pe_tup (kpa (kvc 1) (kpa (kvc 2) (kpa (kvc 6) pa_nil)))) pa_nil))) pa_nil))))) (kgt (n := 2) (by rfl) (kgs (kgl 7 sc_law_refused.nd) (kgs (kgc 8 sc_law_refused.nd) pgs_nil))) (pss_cons (ps_if (pt_not (kval (kcall (ok_law_is_kind T) (hr.mono (by decide)) T.g__law_is_kind T.k__law_is_kind T.b__law_is_kind (kpa (pe_caught (k := 9) T TB em (hr.mono (by decide)) rfl (LamX.lamS_by (by kernel_rfl)) rfl (fun _ _ _ _ _ => rfl) (fun A outer s H E f d hr => (pe_callS (okscore T) (hr.mono (by decide)) rfl T.g_score T.k_score T.b_score (fun σ => passAt (takes_of rfl rfl rfl rfl) σ) (kpa (pe_ix (r := rIxT K) ix_tup (kvf 8) pe_int (fun _ _ => rfl)) (kpa (pe_ix (r := rIxT K) ix_tup (kvf 8) pe_int (fun _ _ => rfl)) (kpa (pe_ix (r := rIxT K) ix_tup (kvf 8) pe_int (fun _ _ => rfl)) pa_nil))) (by kernel_rfl) (by kernel_rfl) (by kernel_rfl)))) (kpa (kvl 7) pa_nil))))) (pss_one (ps_ret pe_bl)) pss_nil)
      (pss_one (ps_if (pt_not (kval (kcall (ok_law_is_kind T) (hr.mono (by decide)) T.g__law_is_kind T.k__law_is_kind T.b__law_is_kind (kpa (pe_caught (k := 9) T TB em (hr.mono (by decide)) rfl (LamX.lamS_by (by kernel_rfl)) rfl (fun _ _ _ _ _ => rfl) (fun A outer s H E f d hr => (pe_callS (okahead T) (hr.mono (by decide)) rfl T.g_ahead T.k_ahead T.b_ahead (fun σ => passAt (takes_of rfl rfl rfl rfl) σ) (kpa (pe_ix (r := rIxT K) ix_tup (kvf 8) pe_int (fun _ _ => rfl)) (kpa (pe_ix (r := rIxT K) ix_tup (kvf 8) pe_int (fun _ _ => rfl)) (kpa (pe_ix (r := rIxT K) ix_tup (kvf 8) pe_int (fun _ _ => rfl)) (kpa (kvf 6) pa_nil)))) (by kernel_rfl) (by kernel_rfl) (by kernel_rfl)))) (kpa (kvl 7) pa_nil))))) (pss_one (ps_ret pe_bl)) pss_nil))))
      (pss_cons (ps_if (pt_cmpR op_lt (kB (r := rLenQ K) call_len_seq T.n_len (kpa (kvc 2) pa_nil)) pe_int (nomark _)) (pss_one (ps_ret pe_bl)) pss_nil)
      (pss_cons (ps_for PassesOwn.never rfl (show PI _ _ _ (iList K _) from pi_list (pe_lst (kpa (kvc 6) (kpa pe_int pa_nil)))) (kgc 9 sc_law_refused.nd) (pss_one (ps_if (pt_not (kval (kB (r := rIsX K) call_isX T.n_isinstance (kpa (pe_caught (k := 9) T TB em (hr.mono (by decide)) rfl (LamX.lamS_by (by kernel_rfl)) rfl (fun _ _ _ _ _ => rfl) (fun A outer s H E f d hr => (pe_callS (okahead T) (hr.mono (by decide)) rfl T.g_ahead T.k_ahead T.b_ahead (fun σ => passAt (takes_of rfl rfl rfl rfl) σ) (kpa (kvf 1) (kpa (kvf 2) (kpa pe_int (kpa (kvf 9) pa_nil)))) (by kernel_rfl) (by kernel_rfl) (by kernel_rfl)))) (kpa (kgc' (v := .ref T.cBadIndex) ⟨_, T.g_BadIndex, rfl⟩) pa_nil))))) (pss_one (ps_ret pe_bl)) pss_nil)))
      (pss_one (ps_ret pe_bl))))))))))), ?_⟩
    obtain ⟨v1, v2, rfl⟩ : ∃ v1 v2, ws = [v1, v2] := by
      cases o with | cons _ o => cases o with | cons _ o => cases o; exact ⟨_, _, rfl⟩
    have eN : L2.start n_law_refused [.ref B.dr.d, v1, v2] = some (.ref B.dr.d) :: ([v1, v2].map some ++ List.replicate 7 none) := rfl
    have g : At K (TWA K T0 qRef B) ms ⟨H, H⟩ (.raw (.ref B.dr.d) :: ([x, .list xs].map .dat ++ List.replicate 7 .emp)) (L2.start n_law_refused [.ref B.dr.d, v1, v2]) H := ⟨sub, lv, by rw [eN]; exact env_argsN o, p, .refl H, Same.refl _, c⟩
    refine en_pickM (rt := fun A => A.dr.d) (as := [some .none, some (.int 5), some (.list [.tuple [.str "low", .int 1]]), some (.tuple [.tuple [.str "low", .int 0]])]) (i := 0) rfl ?m1 (by simp) (by show 4 ≤ 1000; decide) g fun vb ab od1 H1 hab g1 x1 ag1 hD1 => ?_
    case m1 =>
      refine evm_cons ev_non (evm_cons ev_int (evm_cons (ev_lst (ed_cons (ev_tup (ed_cons ev_str (ed_cons ev_int ed_nil)) (by show 2 ≤ 100000; decide)) ed_nil) (by show 1 ≤ 100000; decide)) (evm_cons (ev_tup (ed_cons (ev_tup (ed_cons ev_str (ed_cons ev_int ed_nil)) (by show 2 ≤ 100000; decide)) ed_nil) (by show 1 ≤ 100000; decide)) evm_nil)))
    refine en_pickM (rt := fun A => A.dr.d) (as := [some .none, some (.int 5), some (.str "field"), none, some (.list [.none]), some (.list [.tuple [.str "bid", .int 0, .tuple [.int 0, .int 0, .int 0, .int 0]]])]) (i := 0) rfl ?m2 (by simp) (by show 6 ≤ 1000; decide) g1 fun vw aw od H2 haw g2 x2 ag2 hD2 => ?_
    case m2 =>
      exact evm_cons ev_non (evm_cons ev_int (evm_cons ev_str (evm_dict (ds := [.list [.none], .list [.tuple [.str "bid", .int 0, .tuple [.int 0, .int 0, .int 0, .int 0]]]]) (ed_cons (ev_lst (ed_cons ev_non ed_nil) (by show 1 ≤ 100000; decide)) (ed_cons (ev_lst (ed_cons (ev_tup (ed_cons ev_str (ed_cons ev_int (ed_cons (ev_tup (ed_cons ev_int (ed_cons ev_int (ed_cons ev_int (ed_cons ev_int ed_nil)))) (by show 4 ≤ 100000; decide)) ed_nil))) (by show 3 ≤ 100000; decide)) ed_nil) (by show 1 ≤ 100000; decide)) ed_nil)))))
    obtain ⟨b, eb, hb⟩ : ∃ b, ab = some b ∧ formB b = false := by
      simp only [List.mem_cons, List.not_mem_nil, or_false] at hab
      rcases hab with rfl | rfl | rfl | rfl
      · exact ⟨_, rfl, rfl⟩
      · exact ⟨_, rfl, rfl⟩
      · exact ⟨_, rfl, rfl⟩
      · exact ⟨_, rfl, by decide +kernel⟩
    subst eb
    have hy : fieldO aw = false := by
      simp only [List.mem_cons, List.not_mem_nil, or_false] at haw
      rcases haw with rfl | rfl | rfl | rfl | rfl | rfl
      · rfl
      · rfl
      · rfl
      · rfl
      · rfl
      · decide +kernel
    have ob1 : Dp K (cut ms H1) vb b := by cases ag1 with | dat o => exact o
    refine ⟨by show 2 ≤ sizeLine; decide, fun t ht => ?_⟩
    have st := same_put (o := .tup [vb, vw]) ht
    refine ⟨t, [vb, vw], rfl, .inl (.inl upd_same), rfl, vb, [vw], rfl, vw, [], rfl, rfl, ?_⟩
    have ex1 : Ex (TWA K T0 qRef B) ms H2 (upd H2 t (.tup [vb, vw])) := (Ex.refl g2.live g2.p).same st
    have exA : Ex (TWA K T0 qRef B) ms H (upd H2 t (.tup [vb, vw])) := ⟨(x1.trans x2).trans ex1.x, ex1.l, ex1.p⟩
    have fa : Fa K (TWA K T0 qRef B) ms x (.list xs) b aw od v1 v2 vb vw (upd H2 t (.tup [vb, vw])) := by
      have f2 : Fa K (TWA K T0 qRef B) ms x (.list xs) b aw od v1 v2 vb vw H2 := ⟨g2.live, g2.p, g2.c, (by
        cases o with | cons o1 _ => exact dp_mono ((x1.trans x2).cut sub) _ _ o1), (by
        cases o with | cons _ o2 => cases o2 with | cons o2 _ => exact dp_mono ((x1.trans x2).cut sub) _ _ o2), dp_mono (x2.cut sub) _ _ ob1, ag2, hD2⟩
      exact f2.go sub ex1
    generalize upd H2 t (.tup [vb, vw]) = Hb at exA fa
    clear ex1 st ht hD2 ag2 ag1 ob1 x2 g2 haw hab x1 hD1 g1 g
    have exn := fun {C : Addr} (s : PySem.W.subIn K (.ref C) (.ref T.cTenderError) = some true) => PySem.W.exm_ref T.b_TenderError T.e_TenderError.hd T.t_TenderError s
    have exF := exn T.su_BadFormula_TenderError
    have exD := exn T.su_BadField_TenderError
    have exI := exn T.su_BadIndex_TenderError
    have kFF := kit_cls T.i_BadFormula T.t_BadFormula T.su_BadFormula_BadFormula T.su_BadFormula_BadFormula
    have kDD := kit_cls T.i_BadField T.t_BadField T.su_BadField_BadField T.su_BadField_BadField
    have kII := kit_cls T.i_BadIndex T.t_BadIndex T.su_BadIndex_BadIndex T.su_BadIndex_BadIndex
    -- for work in [mark_weights, ..]
    refine ⟨by show 5 ≤ sizeLine; decide, fun L hL => ?_⟩
    have st := same_put (o := .lst [.ref T.amark_weights, .ref T.arelative_weights, .ref T.aleast_mark_sum, .ref T.apasses, .ref T.aturn]) hL
    have ex1 := (Ex.refl fa.l fa.p).same st
    have f1 := fa.go sub ex1
    have nL : L ∉ (TWA K T0 qRef B).ws := fun z => fa.l.fresh hL (sub L z)
    refine ⟨L, rfl, ⟨_, SqL.of upd_same⟩, ?_⟩
    refine for_refs (Ex (TWA K T0 qRef B) ms (upd Hb L _)) none rfl (fun H e => SqL.of (e.x L _ nL upd_same)) (Ex.refl f1.l f1.p) (fun v hv H3 e3 N hN => ?_) fun o5 H3 e3 => ?_
    · have f3 := f1.go sub e3
      refine isx_te hw f3.l f3.p exF T.e_BadFormula kFF (fun H4 e4 E' Q' hE => ?_) fun H4 e4 => ⟨true, rfl, iteF (hN H4 (e3.trans e4))⟩
      have f4 := f3.go sub e4
      simp only [List.mem_cons, List.not_mem_nil, or_false] at hv
      rcases hv with rfl | rfl | rfl | rfl | rfl
      · exact ⟨_, _, _, _, (okmark_weights T).mono (by decide), T.k_mark_weights, T.b_mark_weights, rfl, vb, rfl, rx1 f4.l f4.ob (.inr ⟨b, hb, rfl, rfl⟩) hE⟩
      · exact ⟨_, _, _, _, (okrelative_weights T).mono (by decide), T.k_relative_weights, T.b_relative_weights, rfl, vb, rfl, rx1 f4.l f4.ob (.inr ⟨b, hb, rfl, rfl⟩) hE⟩
      · exact ⟨_, _, _, _, (okleast_mark_sum T).mono (by decide), T.k_least_mark_sum, T.b_least_mark_sum, rfl, vb, rfl, rx1 f4.l f4.ob ⟨b, hb, rfl, rfl⟩ hE⟩
      · exact ⟨_, _, _, _, (okpasses T).mono (by decide), T.k_passes, T.b_passes, rfl, vb, rfl, rx1 f4.l f4.ob ⟨b, hb, rfl, rfl⟩ hE⟩
      · exact ⟨_, _, _, _, (okturn T).mono (by decide), T.k_turn, T.b_turn, rfl, vb, rfl, rx1 f4.l f4.ob ⟨b, hb, rfl, rfl⟩ hE⟩
    replace fa := f1.go sub e3
    replace exA := exA.trans (ex1.trans e3)
    clear e3 ex1 f1 st hL nL L Hb
    -- for work in [scores, ..]
    refine ⟨by show 4 ≤ sizeLine; decide, fun L hL => ?_⟩
    have st := same_put (o := .lst [.ref T.ascores, .ref T.aranking, .ref T.aspoilers, .ref T.afirst_spoilers]) hL
    have ex1 := (Ex.refl fa.l fa.p).same st
    have f1 := fa.go sub ex1
    have nL : L ∉ (TWA K T0 qRef B).ws := fun z => fa.l.fresh hL (sub L z)
    refine ⟨L, rfl, ⟨_, SqL.of upd_same⟩, ?_⟩
    refine for_refs (Ex (TWA K T0 qRef B) ms (upd H3 L _)) o5 rfl (fun H e => SqL.of (e.x L _ nL upd_same)) (Ex.refl f1.l f1.p) (fun v hv H3 e3 N hN => ?_) fun o5 H4 e3 => ?_
    · have f3 := f1.go sub e3
      refine isx_te hw f3.l f3.p exF T.e_BadFormula kFF (fun H4 e4 E' Q' hE => ?_) fun H4 e4 => ⟨true, rfl, ?_⟩
      · have f4 := f3.go sub e4
        simp only [List.mem_cons, List.not_mem_nil, or_false] at hv
        rcases hv with rfl | rfl | rfl | rfl
        · exact ⟨_, _, _, _, (okscores T).mono (by decide), T.k_scores, T.b_scores, rfl, vb, rfl, vw, rfl, ry f4.l f4.hD (.cons (.dat f4.ob) (.cons f4.ow .nil)) ⟨b, aw, rfl, .inl ⟨hb, rfl⟩⟩ hE⟩
        · exact ⟨_, _, _, _, (okranking T).mono (by decide), T.k_ranking, T.b_ranking, rfl, vb, rfl, vw, rfl, ry f4.l f4.hD (.cons (.dat f4.ob) (.cons f4.ow .nil)) ⟨b, aw, rfl, .inl ⟨hb, rfl⟩⟩ hE⟩
        · exact ⟨_, _, _, _, (okspoilers T).mono (by decide), T.k_spoilers, T.b_spoilers, rfl, vb, rfl, vw, rfl, ry f4.l f4.hD (.cons (.dat f4.ob) (.cons f4.ow .nil)) ⟨b, aw, rfl, .inl ⟨hb, rfl⟩⟩ hE⟩
        · exact ⟨_, _, _, _, (okfirst_spoilers T).mono (by decide), T.k_first_spoilers, T.b_first_spoilers, rfl, vb, rfl, vw, rfl, ry f4.l f4.hD (.cons (.dat f4.ob) (.cons f4.ow .nil)) ⟨b, aw, rfl, .inl ⟨hb, rfl⟩⟩ hE⟩
      · have f4 := f3.go sub e4
        refine iteF ?_
        refine isx_te hw f4.l f4.p exD T.e_BadField kDD (fun H5 e5 E' Q' hE => ?_) fun H5 e5 => ⟨true, rfl, iteF (hN H5 (e3.trans (e4.trans e5)))⟩
        have f5 := f4.go sub e5
        simp only [List.mem_cons, List.not_mem_nil, or_false] at hv
        rcases hv with rfl | rfl | rfl | rfl
        · exact ⟨_, _, _, _, (okscores T).mono (by decide), T.k_scores, T.b_scores, rfl, v1, rfl, vw, rfl, ry f5.l f5.hD (.cons (.dat f5.o1) (.cons f5.ow .nil)) ⟨x, aw, rfl, .inr ⟨hx, hy, rfl⟩⟩ hE⟩
        · exact ⟨_, _, _, _, (okranking T).mono (by decide), T.k_ranking, T.b_ranking, rfl, v1, rfl, vw, rfl, ry f5.l f5.hD (.cons (.dat f5.o1) (.cons f5.ow .nil)) ⟨x, aw, rfl, .inr ⟨hx, hy, rfl⟩⟩ hE⟩
        · exact ⟨_, _, _, _, (okspoilers T).mono (by decide), T.k_spoilers, T.b_spoilers, rfl, v1, rfl, vw, rfl, ry f5.l f5.hD (.cons (.dat f5.o1) (.cons f5.ow .nil)) ⟨x, aw, rfl, .inr ⟨hx, hy, rfl⟩⟩ hE⟩
        · exact ⟨_, _, _, _, (okfirst_spoilers T).mono (by decide), T.k_first_spoilers, T.b_first_spoilers, rfl, v1, rfl, vw, rfl, ry f5.l f5.hD (.cons (.dat f5.o1) (.cons f5.ow .nil)) ⟨x, aw, rfl, .inr ⟨hx, hy, rfl⟩⟩ hE⟩
    replace fa := f1.go sub e3
    replace exA := exA.trans (ex1.trans e3)
    clear e3 ex1 f1 st hL nL L H3
    -- is_turn
    refine isx_te hw fa.l fa.p exF T.e_BadFormula kFF (fun H5 e5 E' Q' hE => ?_) fun H5 e5 => ⟨true, rfl, iteF ?_⟩
    · have f5 := fa.go sub e5
      exact ⟨vb, rfl, vw, rfl, ry f5.l f5.hD (.cons (.dat f5.ob) (.cons f5.ow .nil)) ⟨b, aw, rfl, hb, rfl⟩ hE⟩
    replace fa := fa.go sub e5
    replace exA := exA.trans e5
    clear e5 H4
    -- odd = pick([-1, len(field), ..])
    have g : At K (TWA K T0 qRef B) ms ⟨H5, H5⟩ [.raw (.ref B.dr.d), .dat x, .dat (.list xs), .emp, .emp, .emp, .emp, .emp, .emp, .emp] [some (.ref B.dr.d), some v1, some v2, some vb, some vw, o5, none, none, none, none] H5 := ⟨sub, fa.l, .cons rfl (.cons fa.o1 (.cons fa.o2 (.cons trivial (.cons trivial (.cons trivial (.cons trivial (.cons trivial (.cons trivial (.cons trivial .nil))))))))), fa.p, .refl H5, Same.refl _, fa.c⟩
    refine en_pickM (rt := fun A => A.dr.d) (as := [some (.int (-1)), some (.int (xs.length : Int)), some .none, some (.bool true), some (.str "0")]) (i := 0) rfl ?m3 (by simp) (by show 5 ≤ 1000; decide) g fun vo ao od3 H6 hao g6 x6 ag6 hD6 => ?_
    case m3 => exact evm_cons (ev_neg ev_int) (evm_cons (ev_lenL (evd_var rfl)) (evm_cons ev_non (evm_cons ev_bl (evm_cons ev_str evm_nil))))
    obtain ⟨i, ei, hi⟩ : ∃ i, ao = some i ∧ whI i 0 ((xs.length : Int) - 1) = false := by
      simp only [List.mem_cons, List.not_mem_nil, or_false] at hao
      rcases hao with rfl | rfl | rfl | rfl | rfl
      · exact ⟨_, rfl, by simp [whI]⟩
      · exact ⟨_, rfl, by simp [whI]; omega⟩
      · exact ⟨_, rfl, rfl⟩
      · exact ⟨_, rfl, rfl⟩
      · exact ⟨_, rfl, rfl⟩
    subst ei
    have oi : Dp K (cut ms H6) vo i := by cases ag6 with | dat o => exact o
    have e6 : Ex (TWA K T0 qRef B) ms H5 H6 := ⟨x6, g6.live, g6.p⟩
    replace fa := fa.go sub e6
    replace exA := exA.trans e6
    clear e6 hD6 ag6 x6 g6 hao g
    -- for kind, given in [..]
    have kFD := kit_cls T.i_BadField T.t_BadField T.su_BadFormula_BadField T.su_BadField_BadField
    have kFI := kit_cls T.i_BadIndex T.t_BadIndex T.su_BadFormula_BadIndex T.su_BadIndex_BadIndex
    have kDF := kit_cls T.i_BadFormula T.t_BadFormula T.su_BadField_BadFormula T.su_BadFormula_BadFormula
    have kDI := kit_cls T.i_BadIndex T.t_BadIndex T.su_BadField_BadIndex T.su_BadIndex_BadIndex
    have kIF := kit_cls T.i_BadFormula T.t_BadFormula T.su_BadIndex_BadFormula T.su_BadFormula_BadFormula
    have kID := kit_cls T.i_BadField T.t_BadField T.su_BadIndex_BadField T.su_BadField_BadField
    refine ⟨vb, rfl, vw, rfl, vo, rfl, by show 3 ≤ sizeLine; decide, fun t1 h1 => ⟨by show 2 ≤ sizeLine; decide, fun p1 q1 => ?_⟩⟩
    have nt1 : t1 ∉ (TWA K T0 qRef B).ws := fun z => fa.l.fresh h1 (sub t1 z)
    have np1 : p1 ∉ (TWA K T0 qRef B).ws := fun z => (fa.l.same (same_put h1)).fresh q1 (sub p1 z)
    have s1 : Same H6 (upd (upd H6 t1 (.tup [vb, vw, vo])) p1 (.tup [.str "formula", .ref t1])) := (same_put h1).trans (same_put q1)
    have a1 : (upd (upd H6 t1 (.tup [vb, vw, vo])) p1 (.tup [.str "formula", .ref t1])) t1 = some (.tup [vb, vw, vo]) := same_put q1 _ _ upd_same
    have b1 : (upd (upd H6 t1 (.tup [vb, vw, vo])) p1 (.tup [.str "formula", .ref t1])) p1 = some (.tup [.str "formula", .ref t1]) := upd_same
    generalize (upd (upd H6 t1 (.tup [vb, vw, vo])) p1 (.tup [.str "formula", .ref t1])) = H7 at s1 a1 b1
    refine ⟨v1, rfl, vw, rfl, vo, rfl, by show 3 ≤ sizeLine; decide, fun t2 h2 => ⟨by show 2 ≤ sizeLine; decide, fun p2 q2 => ?_⟩⟩
    have nt2 : t2 ∉ (TWA K T0 qRef B).ws := fun z => (fa.l.same s1).fresh h2 (sub t2 z)
    have np2 : p2 ∉ (TWA K T0 qRef B).ws := fun z => ((fa.l.same s1).same (same_put h2)).fresh q2 (sub p2 z)
    have s2 : Same H7 (upd (upd H7 t2 (.tup [v1, vw, vo])) p2 (.tup [.str "field", .ref t2])) := (same_put h2).trans (same_put q2)
    have a2 : (upd (upd H7 t2 (.tup [v1, vw, vo])) p2 (.tup [.str "field", .ref t2])) t2 = some (.tup [v1, vw, vo]) := same_put q2 _ _ upd_same
    have b2 : (upd (upd H7 t2 (.tup [v1, vw, vo])) p2 (.tup [.str "field", .ref t2])) p2 = some (.tup [.str "field", .ref t2]) := upd_same
    generalize (upd (upd H7 t2 (.tup [v1, vw, vo])) p2 (.tup [.str "field", .ref t2])) = H8 at s2 a2 b2
    refine ⟨v1, rfl, v2, rfl, vo, rfl, by show 3 ≤ sizeLine; decide, fun t3 h3 => ⟨by show 2 ≤ sizeLine; decide, fun p3 q3 => ?_⟩⟩
    have nt3 : t3 ∉ (TWA K T0 qRef B).ws := fun z => (fa.l.same (s1.trans s2)).fresh h3 (sub t3 z)
    have np3 : p3 ∉ (TWA K T0 qRef B).ws := fun z => ((fa.l.same (s1.trans s2)).same (same_put h3)).fresh q3 (sub p3 z)
    have s3 : Same H8 (upd (upd H8 t3 (.tup [v1, v2, vo])) p3 (.tup [.str "index", .ref t3])) := (same_put h3).trans (same_put q3)
    have a3 : (upd (upd H8 t3 (.tup [v1, v2, vo])) p3 (.tup [.str "index", .ref t3])) t3 = some (.tup [v1, v2, vo]) := same_put q3 _ _ upd_same
    have b3 : (upd (upd H8 t3 (.tup [v1, v2, vo])) p3 (.tup [.str "index", .ref t3])) p3 = some (.tup [.str "index", .ref t3]) := upd_same
    generalize (upd (upd H8 t3 (.tup [v1, v2, vo])) p3 (.tup [.str "index", .ref t3])) = H9 at s3 a3 b3
    refine ⟨by show 3 ≤ sizeLine; decide, fun L hL => ?_⟩
    have nL : L ∉ (TWA K T0 qRef B).ws := fun z => (fa.l.same (s1.trans (s2.trans s3))).fresh hL (sub L z)
    have sL : Same H9 (upd H9 L (.lst [.ref p1, .ref p2, .ref p3])) := same_put hL
    have eL : (upd H9 L (.lst [.ref p1, .ref p2, .ref p3])) L = some (.lst [.ref p1, .ref p2, .ref p3]) := upd_same
    generalize (upd H9 L (.lst [.ref p1, .ref p2, .ref p3])) = Hb at sL eL
    have sb : Same H6 Hb := s1.trans (s2.trans (s3.trans sL))
    have exb : Ex (TWA K T0 qRef B) ms H6 Hb := (Ex.refl fa.l fa.p).same sb
    have fb := fa.go sub exb
    have at1 := (s2.trans (s3.trans sL)) _ _ a1
    have bt1 := (s2.trans (s3.trans sL)) _ _ b1
    have at2 := (s3.trans sL) _ _ a2
    have bt2 := (s3.trans sL) _ _ b2
    have at3 := sL _ _ a3
    have bt3 := sL _ _ b3
    refine ⟨L, rfl, ⟨_, SqL.of eL⟩, ?_⟩
    refine for_pairs (vs := [.ref p1, .ref p2, .ref p3]) (i := 7) (j := 8) (by decide) (Ex (TWA K T0 qRef B) ms Hb) none none rfl (fun H e => SqL.of (e.x L _ nL eL)) (Ex.refl fb.l fb.p) (fun v hv H3 e3 => ?_) fun o7 o8 H3 e3 => ?_
    · have f3 := fb.go sub e3
      have oi3 := dp_mono ((exb.trans e3).go0 sub) _ _ oi
      have tup : ∀ {a : Addr} {us : List V}, Hb a = some (.tup us) → a ∉ (TWA K T0 qRef B).ws → ∀ {H'}, Ex (TWA K T0 qRef B) ms Hb H' → SqT K H' a us := fun {a us} e n {H'} ex => .inl (.inl (ex.x a _ n e))
      simp only [List.mem_cons, List.not_mem_nil, or_false] at hv
      rcases hv with rfl | rfl | rfl
      · refine ⟨p1, .str "formula", .ref t1, rfl, tup bt1 np1 e3, fun N hN => ?_⟩
        refine kind_te hw f3.l f3.p exF T.e_BadFormula kFF kFD kFI rfl (if_pos rfl) (fun H4 e4 E' Q' hE => ?_) fun H4 e4 => ?_
        · have f4 := f3.go sub e4
          exact given3 rfl (tup at1 nt1 (e3.trans e4)) (ry f4.l f4.hD (.cons (.dat f4.ob) (.cons f4.ow (.cons (.dat (dp_mono (e4.go0 sub) _ _ oi3)) .nil))) ⟨b, aw, i, rfl, .inl ⟨hb, rfl⟩⟩ hE)
        · have f4 := f3.go sub e4
          have oi4 := dp_mono (e4.go0 sub) _ _ oi3
          refine kind_te hw f4.l f4.p exF T.e_BadFormula kFF kFD kFI rfl (if_pos rfl) (fun H5 e5 E' Q' hE => ?_) fun H5 e5 => hN H5 (e3.trans (e4.trans e5))
          have f5 := f4.go sub e5
          have oi5 := dp_mono (e5.go0 sub) _ _ oi4
          exact given4 rfl rfl (tup at1 nt1 (e3.trans (e4.trans e5))) (ry f5.l f5.hD (.cons (.dat f5.ob) (.cons f5.ow (.cons (.dat oi5) (.cons (.dat oi5) .nil)))) ⟨b, aw, i, i, rfl, .inl ⟨hb, rfl⟩⟩ hE)
      · have kd : (if ("field" : Str) = "formula" then false else if ("field" : Str) = "field" then true else false) = true := by decide +kernel
        refine ⟨p2, .str "field", .ref t2, rfl, tup bt2 np2 e3, fun N hN => ?_⟩
        refine kind_te hw f3.l f3.p exD T.e_BadField kDF kDD kDI rfl kd (fun H4 e4 E' Q' hE => ?_) fun H4 e4 => ?_
        · have f4 := f3.go sub e4
          exact given3 rfl (tup at2 nt2 (e3.trans e4)) (ry f4.l f4.hD (.cons (.dat f4.o1) (.cons f4.ow (.cons (.dat (dp_mono (e4.go0 sub) _ _ oi3)) .nil))) ⟨x, aw, i, rfl, .inr (.inl ⟨hx, hy, rfl⟩)⟩ hE)
        · have f4 := f3.go sub e4
          have oi4 := dp_mono (e4.go0 sub) _ _ oi3
          refine kind_te hw f4.l f4.p exD T.e_BadField kDF kDD kDI rfl kd (fun H5 e5 E' Q' hE => ?_) fun H5 e5 => hN H5 (e3.trans (e4.trans e5))
          have f5 := f4.go sub e5
          have oi5 := dp_mono (e5.go0 sub) _ _ oi4
          exact given4 rfl rfl (tup at2 nt2 (e3.trans (e4.trans e5))) (ry f5.l f5.hD (.cons (.dat f5.o1) (.cons f5.ow (.cons (.dat oi5) (.cons (.dat oi5) .nil)))) ⟨x, aw, i, i, rfl, .inr (.inl ⟨hx, hy, rfl⟩)⟩ hE)
      · have kd : (if ("index" : Str) = "formula" then false else if ("index" : Str) = "field" then false else true) = true := by decide +kernel
        refine ⟨p3, .str "index", .ref t3, rfl, tup bt3 np3 e3, fun N hN => ?_⟩
        refine kind_te hw f3.l f3.p exI T.e_BadIndex kIF kID kII rfl kd (fun H4 e4 E' Q' hE => ?_) fun H4 e4 => ?_
        · have f4 := f3.go sub e4
          exact given3 rfl (tup at3 nt3 (e3.trans e4)) (ry f4.l f4.hD (.cons (.dat f4.o1) (.cons (.dat f4.o2) (.cons (.dat (dp_mono (e4.go0 sub) _ _ oi3)) .nil))) ⟨x, _, i, rfl, .inr (.inr ⟨_, hx, rfl, hf, hi, rfl⟩)⟩ hE)
        · have f4 := f3.go sub e4
          have oi4 := dp_mono (e4.go0 sub) _ _ oi3
          refine kind_te hw f4.l f4.p exI T.e_BadIndex kIF kID kII rfl kd (fun H5 e5 E' Q' hE => ?_) fun H5 e5 => hN H5 (e3.trans (e4.trans e5))
          have f5 := f4.go sub e5
          have oi5 := dp_mono (e5.go0 sub) _ _ oi4
          exact given4 rfl rfl (tup at3 nt3 (e3.trans (e4.trans e5))) (ry f5.l f5.hD (.cons (.dat f5.o1) (.cons (.dat f5.o2) (.cons (.dat oi5) (.cons (.dat oi5) .nil)))) ⟨x, _, i, i, rfl, .inr (.inr ⟨_, hx, rfl, hf, .inl hi, rfl⟩)⟩ hE)
    replace oi := dp_mono ((exb.trans e3).go0 sub) _ _ oi
    replace fa := fb.go sub e3
    replace exA := exA.trans (exb.trans e3)
    clear e3 fb exb sb at1 bt1 at2 bt2 at3 bt3 eL sL s3 a3 b3 s2 a2 b2 s1 a1 b1 nL nt1 np1 nt2 np2 nt3 np3
    -- if len(field) < 2
    obtain ⟨pl, us, e2, hs2, hl⟩ : ∃ pl us, v2 = .ref pl ∧ SqL K H3 pl us ∧ us.length = xs.length := by
      have := fa.o2
      cases this with | lst sx dx => exact ⟨_, _, rfl, sql_mono cut_le sx, dpa_len dx⟩
    refine ⟨v2, rfl, pl, us, by rw [e2], .inl hs2, us.length, 2, rfl, rfl, _, rfl, ?_⟩
    by_cases lt : ((us.length : Nat) : Int) < 2
    · rw [decide_eq_true lt]
      exact iteT (kQ H3 exA)
    rw [decide_eq_false lt]
    refine iteF ?_
    have l2 : 2 ≤ xs.length := by omega
    clear hs2 hl e2 lt
    -- for second in [odd, 0]
    refine ⟨vo, rfl, by show 2 ≤ sizeLine; decide, fun L2 hL => ?_⟩
    have st := same_put (o := .lst [vo, .int 0]) hL
    have ex1 := (Ex.refl fa.l fa.p).same st
    have f1 := fa.go sub ex1
    have nL : L2 ∉ (TWA K T0 qRef B).ws := fun z => fa.l.fresh hL (sub L2 z)
    refine ⟨L2, rfl, ⟨_, SqL.of upd_same⟩, ?_⟩
    refine for_refs (Ex (TWA K T0 qRef B) ms (upd H3 L2 _)) none rfl (fun H e => SqL.of (e.x L2 _ nL upd_same)) (Ex.refl f1.l f1.p) (fun v hv H4 e4 N hN => ?_) fun o9 H4 e4 => ?_
    · have f4 := f1.go sub e4
      refine isx_te hw f4.l f4.p exI T.e_BadIndex kII (fun H5 e5 E' Q' hE => ?_) fun H5 e5 => ⟨true, rfl, iteF (hN H5 (e4.trans e5))⟩
      have f5 := f4.go sub e5
      have oi5 := dp_mono ((ex1.trans (e4.trans e5)).go0 sub) _ _ oi
      obtain ⟨j, oj, hj⟩ : ∃ j, Dp K (cut ms H5) v j ∧ (whI j 0 (lenD (.list xs) - 1) = false ∨ j = .int 0) := by
        simp only [List.mem_cons, List.not_mem_nil, or_false] at hv
        rcases hv with rfl | rfl
        · exact ⟨i, oi5, .inl hi⟩
        · exact ⟨.int 0, .int 0, .inr rfl⟩
      exact ⟨v1, rfl, v2, rfl, v, rfl, ry f5.l f5.hD (.cons (.dat f5.o1) (.cons (.dat f5.o2) (.cons (.dat (.int 0)) (.cons (.dat oj) .nil)))) ⟨x, _, .int 0, j, rfl, .inr (.inr ⟨_, hx, rfl, hf, .inr ⟨rfl, by show 1 ≤ (xs.length : Int); omega, hj⟩, rfl⟩)⟩ hE⟩
    · exact kQ H4 (exA.trans (ex1.trans e4))
end
end Sc

set_option pp.maxSteps 400
/-! k68, 13: f(_law_pick(draw, [.., {}, ..])), sums by kind. -/
namespace Sc
open PySem L2 Fw Wp Cd LamX
open PyProof.Rows (envOfC)
section
variable {K : PySem.W.Frag} {W : Wd} {r : Addr} {te : TE} {tA : TA} {fe : FE} {fA : FA} {f : List Va → (List (Option PyData) → Prop) → Prop} {n : Nat}
def JM2 (K : PySem.W.Frag) (W : Wd) (r : Addr) (ta : TA) (f : List Va → (List (Option PyData) → Prop) → Prop) : Prop := ∀ env Φ, f env Φ → ∀ (ms : List Addr) (B : Bs) (σ : L2.St) (H : Hp), At K W ms B (env.map (low r)) σ H → ∀ Q : List V → Hp → Prop,
  (∀ as vs od H', Φ as → At K W ms B (env.map (low r)) σ H' → XW W.ws H H' → AgAll K (cut ms H') od vs as → (∀ D, od = some D → cut ms H' D = some (.dK [])) → Q vs H') → ta σ H Q
theorem jm2_cons (h : JE K W r te fe) (t : JM2 K W r tA f) : JM2 K W r (tCons te tA) (fun env Φ => fe env fun d => f env fun as => Φ (some d :: as)) := fun env Φ φ ms B σ H a Q q =>
  h env _ φ ms B σ H a _ fun s v H1 ψ h1 x1 o1 => by
    obtain ⟨d, rfl, ψ⟩ := ψ
    exact t env _ ψ ms B σ H1 h1 _ fun as vs od H2 ψ2 h2 x2 o2 hD => q _ (v :: vs) od H2 ψ2 h2 (x1.trans x2) (.cons (.dat (dp_mono (x2.cut h2.sub) _ _ o1)) o2) hD
theorem jm2_dict (h : JA K W r n tA fA) : JM2 K W r (tCons tDNewK tA) (fun env Φ => fA env fun ds => Φ (none :: ds.map some)) := fun env Φ φ ms B σ H a Q q p hp =>
  h env _ φ ms B σ _ (a.same (same_put hp)) _ fun ds vs H2 ψ h2 x2 o2 => q _ (.ref p :: vs) (some p) H2 ψ.2 h2 ((XW.of_same (same_put hp)).trans x2) (.cons (.dct rfl) (ags_of o2)) fun D e => by
    cases e
    rw [cut_out (a.fresh hp).2.1]
    exact x2 p _ (a.fresh hp).2.2 upd_same
theorem je_pickY {α : Type} {U : α → Wd} {rt : α → Addr} {A : α} {G : List (Option PyData) → PyData → Prop} {E1 E2 : XK} (i : Nat) (hm : JM2 K (U A) (rt A) tA f) : JE K (U A) (rt A) (tCall (spYG K G) [] E1 (tCons (tCall (spPk U rt) [] E2 (tCons (tVar i) (tCons (tLst tA) tNil))) tNil)) (fun env Φ => srcK env i (f env fun as => (as ≠ [] ∧ as.length ≤ 1000) ∧ ∀ a ∈ as, ∃ d, G [a] d ∧ Φ d)) := fun env Φ φ ms B σ H g Q q => by
  have φ : srcK env i (f env fun as => (as ≠ [] ∧ as.length ≤ 1000) ∧ ∀ a ∈ as, ∃ d, G [a] d ∧ Φ d) := φ
  unfold srcK at φ
  cases e : env[i]? with
  | none => rw [e] at φ; exact False.elim φ
  | some s =>
    rw [e] at φ
    cases s with
    | src =>
      have em : (env.map (low (rt A)))[i]? = some (.raw (.ref (rt A))) := by rw [List.getElem?_map, e]; rfl
      obtain ⟨v, ev, ov⟩ := g.env.get em (by intro q; cases q)
      obtain rfl : v = .ref (rt A) := ov
      refine ⟨_, ev, ?_⟩
      refine hm env _ φ ms B σ H g _ fun as vs od H1 ψ g1 x1 o1 hD => ?_
      obtain ⟨⟨hn, hl⟩, hall⟩ := ψ
      have lv : vs.length = as.length := o1.len
      refine ⟨by rw [lv]; exact Nat.le_trans hl (by decide), fun p hp => ?_⟩
      have s2 : Same H1 (upd H1 p (.lst vs)) := same_put hp
      have g2 := g1.same s2
      refine ⟨A, ms, p, vs, rfl, g1.sub, g2.live, g2.p, g2.c, (g1.fresh hp).2.2, upd_same, fun e => hn (by rw [e] at lv; exact List.eq_nil_of_length_eq_zero lv.symm), by omega, fun u hu H' ex => ?_⟩
      obtain ⟨a, ha, ag⟩ := ag_mem o1 hu
      have xx := (XW.of_same s2).trans ex.x
      have sm : Same (cut ms H1) (cut ms H') := xx.cut g1.sub
      obtain ⟨d, hG, ψ⟩ := hall a ha
      refine ⟨ms, od, [a], d, ex.l, fun D e => sm _ _ (hD D e), .cons (ag.mono sm) .nil, hG, fun w H2 s3 o3 => ?_⟩
      exact q (.dat d) w H2 ⟨d, rfl, ψ⟩ ((g2.go ex.x ex.l ex.p).same s3) ((x1.trans xx).trans (.of_same s3)) o3
    | dat d => exact False.elim φ
    | own ds => exact False.elim φ
    | obj a => exact False.elim φ
    | emp => exact False.elim φ
end
/-! ### the weights, one by one -/
def isMk (k : Nat) : Tm → Bool
  | .mark j _ => decide (j = k)
  | .rel _ _ => false
def ms (k : Nat) (f : List Tm) : Int := ((f.filter (isMk k)).map Tm.w).sum
theorem ms_cons (k : Nat) (t : Tm) (f : List Tm) : ms k (t :: f) = (if isMk k t = true then t.w else 0) + ms k f := by
  unfold ms
  cases h : isMk k t with
  | true => rw [List.filter_cons_of_pos h, if_pos rfl, List.map_cons, List.sum_cons]
  | false => rw [List.filter_cons_of_neg (by rw [h]; decide), if_neg (by decide)]; omega
theorem mw_fold : ∀ (f : List Tm), (∀ t ∈ f, t.Ok) → ∀ a b c d : Int, f.foldl mwStep [a, b, c, d] = [a + ms 0 f, b + ms 1 f, c + ms 2 f, d + ms 3 f]
  | [], _, a, b, c, d => by simp [ms]
  | t :: f, h, a, b, c, d => by
    have h2 := h t List.mem_cons_self
    have ih := mw_fold f fun t ht => h t (List.mem_cons_of_mem _ ht)
    rw [List.foldl_cons, ms_cons, ms_cons, ms_cons, ms_cons]
    cases t with
    | mark k x =>
      obtain ⟨k4, _, _⟩ := h2
      match k, k4 with
      | 0, _ => rw [show mwStep [a, b, c, d] (.mark 0 x) = [a + x, b, c, d] from rfl, ih]; simp [isMk, Tm.w]; omega
      | 1, _ => rw [show mwStep [a, b, c, d] (.mark 1 x) = [a, b + x, c, d] from rfl, ih]; simp [isMk, Tm.w]; omega
      | 2, _ => rw [show mwStep [a, b, c, d] (.mark 2 x) = [a, b, c + x, d] from rfl, ih]; simp [isMk, Tm.w]; omega
      | 3, _ => rw [show mwStep [a, b, c, d] (.mark 3 x) = [a, b, c, d + x] from rfl, ih]; simp [isMk, Tm.w]; omega
      | k + 4, h => omega
    | rel r x => rw [show mwStep [a, b, c, d] (.rel r x) = [a, b, c, d] from rfl, ih]; simp [isMk]
theorem mw_eq {f : List Tm} (h : ∀ t ∈ f, t.Ok) : mw f = [ms 0 f, ms 1 f, ms 2 f, ms 3 f] := by
  unfold mw
  rw [mw_fold f h]
  simp
theorem sum_bound {l : List Int} {B : Int} : (∀ x ∈ l, 0 ≤ x ∧ x ≤ B) → 0 ≤ l.sum ∧ l.sum ≤ l.length * B := by
  induction l with
  | nil => intro _; simp
  | cons y l ih =>
    intro h
    have h1 := ih fun x hx => h x (List.mem_cons_of_mem _ hx)
    have h2 := h y List.mem_cons_self
    rw [List.sum_cons, List.length_cons]
    push_cast
    rw [Int.add_mul]
    omega
end Sc

/-! error = caught(lambda: f(..)); if isinstance(error, C) != e: return False. -/
namespace Wp
open PySem L2 Fw LamX
section
variable {K : PySem.W.Frag} {W : Wd} {r P0 CS CN : Addr} {q : Str} {X : WX} {n : Nat} {tA : TA} {fA : FA} {te : TE} {fe : FE} {O : List PyData → Sc.Out → Prop} {tz ts : TS} {fz fs : FS} {h0 hc : Hp} {ms0 ms : List Addr} {env : List Va} {ρ : List Sl} {os : List (Addr × List PyData)} {σ : St} {H H' : Hp}
theorem AtE0.emp_ (a : AtE0 K W r h0 hc ms0 env σ H ms ρ os) (i : Nat) (v : V) : AtE K W r h0 hc ms0 (env.set i .emp) (σ.set i (some v)) H := by
  obtain ⟨os1, v1, s1⟩ := a.vs.emp_ i
  exact ⟨ms, _, os1, v1, ⟨a.at_.sub, a.at_.live, EnvOk.set (s := .emp) (o := some v) trivial i a.at_.env, a.at_.p, a.at_.xw, a.at_.st, a.at_.c⟩, a.hc, a.ws0, a.sub, (s1.map _).nodup a.nd, fun p hp => a.own p (s1.subset hp), fun p hp => a.out p (s1.subset hp)⟩
/-- what a caught call tells: whether it raised an error of the class -/
def Tells (K : PySem.W.Frag) (CS CN : Addr) (o : Sc.Out) (b : Bool) : Prop := (∃ d, o = .ok d ∧ b = false ∧ PySem.W.kitOne K (.type "NoneType") (.ref CN) = some false) ∨ ∃ c, o = .no c ∧ PySem.W.exmOne K (.ref c) (.ref CS) = some true ∧ ExcC K c ∧ PySem.W.kitOne K (.ref c) (.ref CN) = some b
/-- what stands in the variable -/
def Held (K : PySem.W.Frag) (CN : Addr) (H : Hp) (x : V) (b : Bool) : Prop := (x = .non ∧ b = false ∧ PySem.W.kitOne K (.type "NoneType") (.ref CN) = some false) ∨ ∃ (a c : Addr), x = .ref a ∧ H a = some (ExK (.ref c) a) ∧ ExcC K c ∧ PySem.W.kitOne K (.ref c) (.ref CN) = some b
theorem jc_caught {fs : Bool → FS} (i : Nat) (hw : HasTab W P0 q) (ha : JA K W r n tA fA)
    (hrest : ∀ (b : Bool) env P, fs b env P → ∀ (x : V) h0 hc ms0 σ H D, AtE K W r h0 hc ms0 env σ H → σ[i]? = some (some x) → Held K CN H x b → EndsOk K W r X h0 hc ms0 P D → ts D σ H) :
    JS K W r X (tSeq (tAsg (tLamP P0 q (TTk K CS) (fun E => tCallS (Sc.spX K O) (WE fun cls d _ H => E cls d H) tA)) (gName i)) ts) (fun env P => fA env fun ds => (i < env.length) ∧ ∃ o b, O ds o ∧ Tells K CS CN o b ∧ fs b (env.set i .emp) P) := fun env P φ h0 hc ms0 σ H D ⟨ms, ρ, os, a⟩ k => by
  refine ⟨hw.tab _ a.at_.p, fun H1 e1 t1 => ?_⟩
  have lv1 : Live (les os ms) H1 := fun x hx => by
    by_cases z : x = P0
    · obtain ⟨tb, t2, _⟩ := t1
      exact ⟨_, by rw [z]; exact t2⟩
    · obtain ⟨o, e⟩ := a.lent.live x hx
      exact ⟨o, e1 x o z e⟩
  have g1 := at_tab hw a.lent e1 lv1 t1
  have x1 : XW W.ws H H1 := xw_ext hw e1
  refine ha env _ φ (les os ms) _ σ H1 g1 _ fun ds vs H2 ψ g2 x2 o2 => ?_
  obtain ⟨_, hi, o, b, ho, tl, ψ⟩ := ψ
  have len : i < σ.length := by rw [envOk_len a.at_.env, vs_len a.vs]; exact hi
  have go : ∀ (x : V) (H3 : Hp), Same H2 H3 → Held K CN H3 x b → ts D (σ.set i (some x)) H3 := fun x H3 s3 hx => by
    have a3 := a.backL (g2.same s3) ((x1.trans x2).trans (.of_same s3))
    exact hrest b _ P ψ x h0 hc ms0 _ H3 D (a3.emp_ i x) (List.getElem?_set_self len) hx k
  rcases tl with ⟨d, rfl, rfl, kn⟩ | ⟨c, rfl, ex, xc, kc⟩
  · exact ⟨les os ms, ds, _, g2.live, o2, ho, fun d' e v H3 s3 o3 => go .non H3 s3 (.inl ⟨rfl, rfl, kn⟩), fun c e => (nomatch e), fun c f d e => (nomatch e)⟩
  · refine ⟨les os ms, ds, _, g2.live, o2, ho, fun d' e => (nomatch e), fun c' e H3 s3 => ?_, fun c f d e => (nomatch e)⟩
    cases e
    exact ⟨ex, rfl, fun a2 n2 => go (.ref a2) _ (s3.trans (same_put n2)) (.inr ⟨a2, c, rfl, upd_same, xc, kc⟩)⟩
/-- the test behind it, which finds what is due -/
theorem judged_test {rr : R2} {neg : Bool} {i : Nat} {b : Bool} {x : V} {R : Prop} {Qc : Bool → Hp → Prop} (hr : ∀ (b y : Bool) (H : Hp) (Q : VK), Q (.bl (ng neg (decide (b = y)))) H → rr (.bl b) (.bl y) H Q) (he : JE K W r te fe) (hf : fe env fun d => ∃ y : Bool, d = .bool y ∧ ng neg (decide (b = y)) = false ∧ R)
    (a : AtE K W r h0 hc ms0 env σ H) (hs : σ[i]? = some (some x)) (hx : Held K CN H x b) (k : R → ∀ H', AtE K W r h0 hc ms0 env σ H' → Qc false H') :
    tTest (tOp rr (tCB (rIsX K) (tCons (tVar i) (tCons (tC (.ref CN)) tNil))) te) σ H Qc := by
  obtain ⟨ms, ρ, os, a⟩ := a
  have rest : tOp rr (fun _ H Q => Q (.bl b) H) te σ H (fun x H' => ∃ c, x = .bl c ∧ Qc c H') := by
    refine he env _ hf (les os ms) _ σ H a.lent _ fun s v H1 ψ g x1 o1 => ?_
    obtain ⟨d, rfl, y, rfl, ey, hR⟩ := ψ
    cases o1
    exact hr b y H1 _ ⟨_, rfl, by rw [ey]; exact k hR H1 ⟨_, _, _, a.backL g x1⟩⟩
  rcases hx with ⟨rfl, rfl, kn⟩ | ⟨a2, c, rfl, ha2, xc, kc⟩
  · exact ⟨_, hs, .inl ⟨.non, .ref CN, .type "NoneType", .ref CN, false, rfl, .own CN, .base .non, kn, rest⟩⟩
  · exact ⟨_, hs, .inr ⟨a2, c, .ref CN, .ref CN, b, rfl, ha2, xc, .own CN, kc, rest⟩⟩
/-- error = caught(lambda: f(..)); if isinstance(error, C) != e: return False; .. -/
theorem jc_judge {rr : R2} {neg : Bool} {u : TS} (i : Nat) (hw : HasTab W P0 q) (ha : JA K W r n tA fA) (he : JE K W r te fe) (hr : ∀ (b y : Bool) (H : Hp) (Q : VK), Q (.bl (ng neg (decide (b = y)))) H → rr (.bl b) (.bl y) H Q) (hz : JS K W r X tz fz) :
    JS K W r X (tSeq (tAsg (tLamP P0 q (TTk K CS) (fun E => tCallS (Sc.spX K O) (WE fun cls d _ H => E cls d H) tA)) (gName i)) (tSeq (tIfS (tTest (tOp rr (tCB (rIsX K) (tCons (tVar i) (tCons (tC (.ref CN)) tNil))) te)) u tNext) tz))
    (fun env P => fA env fun ds => (i < env.length) ∧ ∃ o b, O ds o ∧ Tells K CS CN o b ∧ fe (env.set i .emp) fun d => ∃ y : Bool, d = .bool y ∧ ng neg (decide (b = y)) = false ∧ fz (env.set i .emp) P) :=
  jc_caught (fs := fun b env P => fe env fun d => ∃ y : Bool, d = .bool y ∧ ng neg (decide (b = y)) = false ∧ fz env P) i hw ha fun b env P φ x h0 hc ms0 σ H D a hs hx k => by
    exact judged_test (te := te) (Qc := fun c H' => if c = true then u { D with nx := tz D } σ H' else tNext { D with nx := tz D } σ H') hr he φ a hs hx fun fzh H' a' => by
      rw [if_neg (by decide)]
      exact hz env P fzh h0 hc ms0 σ H' D a' k
theorem jc_judgeL {rr : R2} {neg : Bool} {u : TS} (i : Nat) (hw : HasTab W P0 q) (ha : JA K W r n tA fA) (he : JE K W r te fe) (hr : ∀ (b y : Bool) (H : Hp) (Q : VK), Q (.bl (ng neg (decide (b = y)))) H → rr (.bl b) (.bl y) H Q) :
    JS K W r X (tSeq (tAsg (tLamP P0 q (TTk K CS) (fun E => tCallS (Sc.spX K O) (WE fun cls d _ H => E cls d H) tA)) (gName i)) (tIfS (tTest (tOp rr (tCB (rIsX K) (tCons (tVar i) (tCons (tC (.ref CN)) tNil))) te)) u tNext))
    (fun env P => fA env fun ds => (i < env.length) ∧ ∃ o b, O ds o ∧ Tells K CS CN o b ∧ fe (env.set i .emp) fun d => ∃ y : Bool, d = .bool y ∧ ng neg (decide (b = y)) = false ∧ P.nx (env.set i .emp)) :=
  jc_caught (fs := fun b env P => fe env fun d => ∃ y : Bool, d = .bool y ∧ ng neg (decide (b = y)) = false ∧ P.nx env) i hw ha fun b env P φ x h0 hc ms0 σ H D a hs hx k => by
    exact judged_test (te := te) (Qc := fun c H' => if c = true then u D σ H' else tNext D σ H') hr he φ a hs hx fun fzh H' a' => by
      rw [if_neg (by decide)]
      exact k.nx env σ H' fzh a'
theorem rr_ne (b y : Bool) (H : Hp) (Q : VK) (h : Q (.bl (ng true (decide (b = y)))) H) : rNe (.bl b) (.bl y) H Q := by
  refine ⟨rfl, ?_⟩
  have e : decide (V.bl b = V.bl y) = decide (b = y) := decide_eq_decide.mpr ⟨fun h => by cases h; rfl, fun h => by rw [h]⟩
  rw [e]
  exact h
theorem rr_eq (b y : Bool) (H : Hp) (Q : VK) (h : Q (.bl (ng false (decide (b = y)))) H) : rEq (.bl b) (.bl y) H Q := by
  refine ⟨rfl, ?_⟩
  have e : decide (V.bl b = V.bl y) = decide (b = y) := decide_eq_decide.mpr ⟨fun h => by cases h; rfl, fun h => by rw [h]⟩
  rw [e]
  exact h
/-- f(k = v), of a def that only reads -/
theorem je_callK {E : XK} {G : List PyData → PyData → Prop} (ha : JA K W r 1 tA fA) : JE K W r (tCallK (spP K G) Sc.gV_1 E tNil tA) (fun env Φ => fA env fun ds => oneK ds fun a => ∃ d, G [a] d ∧ Φ d) := fun env Φ φ ms B σ H g Q q => by
  show tA σ H _
  refine ha env _ φ ms B σ H g _ fun ds vs H1 ψ h1 x1 o1 => ?_
  obtain ⟨_, ψ⟩ := ψ
  obtain ⟨a, rfl, d, ho, ψ⟩ := oneK_of ψ
  cases o1 with
  | cons o1 on =>
    cases on
    exact ⟨ms, [a], d, h1.live, .cons o1 .nil, ho, fun v H2 s2 o2 => q (.dat d) v H2 ⟨d, rfl, ψ⟩ (h1.same s2) (x1.trans (.of_same s2)) o2⟩
end
end Wp

set_option pp.maxSteps 400
/-! k68, 14: the law. -/
namespace Sc
open PySem L2 Fw Wp Cd LamX PySem.Spec
open PyProof.Rows (envOfC)
local macro_rules | `(tactic| rfl') => `(tactic| conv => whnf)
theorem hu64 {k : Nat} {A : Around} (r : Room k A) : A.units + 64 < cLine := by
  have := r.units
  omega
theorem len_rep {α : Type} (n : Nat) (l : List α) : (List.replicate n l).flatten.length = n * l.length := by
  induction n with
  | zero => simp
  | succ n ih => rw [List.replicate_succ, List.flatten_cons, List.length_append, ih, Nat.succ_mul]; omega
theorem mem_rep {α : Type} {n : Nat} {l : List α} {x : α} (h : x ∈ (List.replicate n l).flatten) : x ∈ l := by
  obtain ⟨y, hy, hx⟩ := List.mem_flatten.mp h
  rw [List.eq_of_mem_replicate hy] at hx
  exact hx
theorem map_rep {α β : Type} (f : α → β) (n : Nat) (l : List α) : (List.replicate n l).flatten.map f = (List.replicate n (l.map f)).flatten := by
  rw [List.map_flatten, List.map_replicate]
/-- a field as the law makes it -/
theorem field_ok {fl : List Bid} (h : ∀ b ∈ fl, b.Ok) {m : Int} (hm : m = 0 ∨ m = 1 ∨ m = 2 ∨ m = 5 ∨ m = 129 ∨ m = 130) (hl : (fl.length : Int) = if 5 < m then 5 else m) :
    ((List.replicate (1 + m / 6).toNat (fl.map Bid.d)).flatten.length : Int) ≤ m ∧ ∃ gl : List Bid, (∀ b ∈ gl, b.Ok) ∧ (gl.length : Int) = m ∧
      (List.replicate (1 + m / 6).toNat (fl.map Bid.d)).flatten.take m.toNat ++ (List.replicate (m - ((List.replicate (1 + m / 6).toNat (fl.map Bid.d)).flatten.length : Int)).toNat ((List.replicate (1 + m / 6).toNat (fl.map Bid.d)).flatten.take (1 : Int).toNat)).flatten = gl.map Bid.d := by
  have hG : (List.replicate (1 + m / 6).toNat (fl.map Bid.d)).flatten = (List.replicate (1 + m / 6).toNat fl).flatten.map Bid.d := (map_rep _ _ _).symm
  rw [hG]
  have lG : (List.replicate (1 + m / 6).toNat fl).flatten.length = (1 + m / 6).toNat * fl.length := len_rep _ _
  have oG : ∀ b ∈ (List.replicate (1 + m / 6).toNat fl).flatten, b.Ok := fun b hb => h b (mem_rep hb)
  generalize (List.replicate (1 + m / 6).toNat fl).flatten = G at lG oG
  have key : (G.length : Int) ≤ m ∧ (m = 0 ∨ 1 ≤ G.length) := by
    rcases hm with rfl | rfl | rfl | rfl | rfl | rfl
    · rw [if_neg (by decide)] at hl
      rw [show (1 + (0 : Int) / 6).toNat = 1 from by decide] at lG
      omega
    · rw [if_neg (by decide)] at hl
      rw [show (1 + (1 : Int) / 6).toNat = 1 from by decide] at lG
      omega
    · rw [if_neg (by decide)] at hl
      rw [show (1 + (2 : Int) / 6).toNat = 1 from by decide] at lG
      omega
    · rw [if_neg (by decide)] at hl
      rw [show (1 + (5 : Int) / 6).toNat = 1 from by decide] at lG
      omega
    · rw [if_pos (by decide)] at hl
      rw [show (1 + (129 : Int) / 6).toNat = 22 from by decide] at lG
      omega
    · rw [if_pos (by decide)] at hl
      rw [show (1 + (130 : Int) / 6).toNat = 22 from by decide] at lG
      omega
  obtain ⟨k1, k2⟩ := key
  rw [List.length_map]
  refine ⟨k1, G.take m.toNat ++ (List.replicate (m - (G.length : Int)).toNat (G.take 1)).flatten, fun b hb => ?_, ?_, ?_⟩
  · rcases List.mem_append.mp hb with q | q
    · exact oG b (List.mem_of_mem_take q)
    · exact oG b (List.mem_of_mem_take (mem_rep q))
  · rw [List.length_append, len_rep, List.length_take, List.length_take]
    rcases k2 with rfl | k2
    · have : G.length = 0 := by omega
      simp [this]
    · rw [show min 1 G.length = 1 from by omega]
      omega
  · rw [List.map_append, map_rep, List.map_take, List.map_take]
    rfl
theorem say_bool (b : Bool) : Say 62 0 (.bool b) := ⟨shp_bool b, by cases b <;> rfl, by cases b <;> decide +kernel⟩
theorem field_is {fl : List Bid} (h : ∀ b ∈ fl, b.Ok) (l : fl.length ≤ 130) : fieldB (.list (fl.map Bid.d)) = true ∧ fieldB (.tuple (fl.map Bid.d)) = true := by
  have a : (fl.map Bid.d).all bidB = true := List.all_eq_true.mpr fun d hd => by
    obtain ⟨b, hb, rfl⟩ := List.mem_map.mp hd
    exact bid_ok (h b hb)
  refine ⟨?_, ?_⟩
  · show (decide ((fl.map Bid.d).length ≤ 130) && (fl.map Bid.d).all bidB) = true
    rw [a, List.length_map, decide_eq_true l]
    rfl
  · show (decide ((fl.map Bid.d).length ≤ 130) && (fl.map Bid.d).all bidB) = true
    rw [a, List.length_map, decide_eq_true l]
    rfl
theorem field_near {fl : List Bid} (h : ∀ b ∈ fl, b.Ok) {x : PyData} {y : Bool} (hx : bidB x = y) : fieldB (.list ((fl.map Bid.d).take 129 ++ [x])) = y ∧ fieldB (.list ([x] ++ (fl.map Bid.d).take 129)) = y := by
  have a : ((fl.map Bid.d).take 129).all bidB = true := List.all_eq_true.mpr fun d hd => by
    obtain ⟨b, hb, rfl⟩ := List.mem_map.mp (List.mem_of_mem_take hd)
    exact bid_ok (h b hb)
  have l : ((fl.map Bid.d).take 129).length ≤ 129 := by rw [List.length_take]; omega
  refine ⟨?_, ?_⟩
  · show (decide (((fl.map Bid.d).take 129 ++ [x]).length ≤ 130) && ((fl.map Bid.d).take 129 ++ [x]).all bidB) = y
    rw [List.all_append, a, decide_eq_true (by rw [List.length_append]; simp; omega)]
    show (true && (true && (bidB x && true))) = y
    rw [hx]
    cases y <;> rfl
  · show (decide (([x] ++ (fl.map Bid.d).take 129).length ≤ 130) && ([x] ++ (fl.map Bid.d).take 129).all bidB) = y
    rw [List.all_append, a, decide_eq_true (by rw [List.length_append]; simp; omega)]
    show (true && ((bidB x && true) && true)) = y
    rw [hx]
    cases y <;> rfl
theorem ms_bound {f : List Tm} (h : FormOk f) (k : Nat) : 0 ≤ ms k f ∧ ms k f ≤ 6000 := by
  have b := sum_bound (l := (f.filter (isMk k)).map Tm.w) (B := 1000) fun x hx => by
    obtain ⟨t, ht, rfl⟩ := List.mem_map.mp hx
    have := h.2 t (List.mem_filter.mp ht).1
    cases t with
    | mark j w => exact ⟨by have := this.2.1; show 0 ≤ w; omega, this.2.2⟩
    | rel r w => exact ⟨by have := this.1; show 0 ≤ w; omega, this.2⟩
  have l := List.length_filter_le (isMk k) f
  have l2 := h.1
  rw [List.length_map] at b
  exact ⟨b.1, by have := b.2; have e : ((f.filter (isMk k)).length : Int) ≤ 6 := by omega
                 exact Int.le_trans this (by show _ * (1000 : Int) ≤ 6000; omega)⟩
theorem rs_bound {f : List Tm} (h : FormOk f) (r : Rel) : 0 ≤ rs r f ∧ rs r f ≤ 6000 := by
  have b := sum_bound (l := (f.filter (isRel r)).map Tm.w) (B := 1000) fun x hx => by
    obtain ⟨t, ht, rfl⟩ := List.mem_map.mp hx
    have := h.2 t (List.mem_filter.mp ht).1
    cases t with
    | mark j w => exact ⟨by have := this.2.1; show 0 ≤ w; omega, this.2.2⟩
    | rel r w => exact ⟨by have := this.1; show 0 ≤ w; omega, this.2⟩
  have l := List.length_filter_le (isRel r) f
  have l2 := h.1
  rw [List.length_map] at b
  exact ⟨b.1, by have := b.2; have e : ((f.filter (isRel r)).length : Int) ≤ 6 := by omega
                 exact Int.le_trans this (by show _ * (1000 : Int) ≤ 6000; omega)⟩
theorem shows_ints {L : List Int} (l : L.length ≤ 4) (h : ∀ x ∈ L, 0 ≤ x ∧ x ≤ 6000) : Shows (.tuple (L.map .int)) :=
  ⟨_, _, say_tuple (B := 62) (n := 0) (m := 4) (fun d hd => by
    obtain ⟨x, hx, rfl⟩ := List.mem_map.mp hd
    have := h x hx
    exact say_int (Nat.lt_of_le_of_lt (show x.natAbs ≤ 6000 by omega) (by decide))) (by rw [List.length_map]; exact l), by decide, by decide, .inr ⟨_, rfl⟩⟩
theorem shows_bools (y : Bool) : Shows (.list [.bool y, .bool y, .bool y]) :=
  ⟨_, _, say_list (B := 62) (n := 0) (m := 3) (fun d hd => by
    simp only [List.mem_cons, List.not_mem_nil, or_false] at hd
    rcases hd with rfl | rfl | rfl <;> exact say_bool y) (by show 3 ≤ 3; decide), by decide, by decide, .inl ⟨_, rfl⟩⟩
section
variable {P : Program} {w : World} {K : PySem.W.Frag} {mg : Str → Option Value} {base : Heap}
theorem js_go {K : PySem.W.Frag} {W : Wd} {r : Addr} {ts : TS} {env : List Va} {P : Post} {ms : List Addr} {ρ : List Sl} {σ : L2.St} {H : Hp} {D : Ends} (hq : ∃ f, JS K W r (fun _ _ _ _ => False) ts f ∧ f env P) (h : At K W ms ⟨H, H⟩ ρ σ H) (vs : Vs r env ρ [])
    (nx : ∀ e, ¬ P.nx e) (rt : ∀ d v H, P.rt d → Dp K (cut ms H) v d → D.rt v H) (bk : ∀ e, ¬ P.bk e) (ct : ∀ e, ¬ P.ct e) (ex : ∀ c e, ¬ P.ex c e) (exf : ∀ c f d e, ¬ P.exf c f d e) (ro : ∀ o, ¬ P.ro o) : ts D σ H :=
  let ⟨f, hj, hf⟩ := hq
  hj env P hf H (cut ms H) ms σ H D ⟨ms, ρ, [], vs, h, Same.refl _, h.sub, fun _ z => z, List.nodup_nil, (fun p hp => nomatch hp), (fun p hp => nomatch hp)⟩
    ⟨fun e σ H' q a => False.elim (nx e q), fun d v H' q a s o => rt d v H' q o, fun e σ H' q a => False.elim (bk e q), fun e σ H' q a => False.elim (ct e q), fun c e σ H' q a => False.elim (ex c e q), fun c f d e σ H' dx v q => False.elim (exf c f d e q), fun o v H' q => False.elim (ro o q)⟩
theorem q_begunA {q : Str} {T0 : Addr} {B : Bs} {H : Hp} {ρ : List Sl} {σ : L2.St} {D : Ends} {tz : TS} {i j : Nat} {ns : List Int} {E : XK} (h : At K W0 [T0] B ρ σ H) (hT : H T0 = some (.tbl #[])) (hr : ρ[i]? = some (.dat (.list (ns.map .int)))) (hl : ns.length ≤ 63)
    (k : ∀ (A : DrawTA T0) σ' H', At K (TWA K T0 q A) [A.dr.d, A.dr.l, T0] ⟨H', H'⟩ (ρ.set j (.raw (.ref A.dr.d))) σ' H' → tz D σ' H') : tSeq (tAsg (tCall (spBg K) [] E (tCons (tVar i) tNil)) (gName j)) tz D σ H := by
  obtain ⟨v, ev, ov⟩ := h.env.get hr (by intro q; cases q)
  refine ⟨_, ev, ?_⟩
  refine ⟨[T0], ns, h.live, .cons ov .nil, hl, fun A H1 a1 d0 l0 p1 c1 => ?_⟩
  have nd : T0 ≠ A.d := fun z => by rw [z, d0] at hT; cases hT
  have nl : T0 ≠ A.l := fun z => by rw [z, l0] at hT; cases hT
  have hT1 : H1 T0 = some (.tbl #[]) := a1.xw T0 _ (by intro z; cases z) hT
  refine k ⟨A, nd, nl⟩ _ H1 ?_
  have m : Same (cut [T0] H) (cut [A.d, A.l, T0] H1) := ((cut_new l0).trans (cut_new d0)).trans a1.st
  have b1 : At K (TWA K T0 q ⟨A, nd, nl⟩) [A.d, A.l, T0] ⟨H1, H1⟩ ρ σ H1 := ⟨fun _ z => z, a1.live, h.env.mono m, ⟨p1, TabS.nil hT1⟩, .refl H1, Same.refl _, c1⟩
  exact b1.set (s := .raw (.ref A.d)) rfl j
theorem law_ok (T : Txt K mg) : LawAtU P w K mg "law" slaw T.alaw T.dlaw 18 63 "script" "_law_refused" T.a_law_refused T.d_law_refused := by
  refine ⟨T.Flaw, ⟨_, T.F_law_refused⟩, T.g__law_refused, nlaw, sclaw, fun base cdv m T0 s H ec _ TB hr => ?_⟩
  have hg : (cxOf CX0 P w K mg base nlaw "law" (defScope slaw) T.alaw cdv callerA [] s H E0).nox.A.guards = some [] := rfl
  refine ⟨_, (pss_cons (ksl 1 sclaw.nd (kcall (ok_law_begun T) (hr.mono (by decide)) T.g__law_begun T.k__law_begun T.b__law_begun (kpa (kvl 0) pa_nil)))
      (pss_cons (ps_for PassesOwn.never rfl (krg1 T.n_range (kpa (pe_op op_add pe_int (kB (call_min2 rfl) T.n_min (kpa (kB (r := rLenQ K) call_len_seq T.n_len (kpa (kvl 0) pa_nil)) (kpa pe_int pa_nil)))) pa_nil)) (kgl 2 sclaw.nd) (pss_cons (kasg (pe_tup (kpa (kcall (lift_A (T0 := T0) (q := qRef) (ok_law_bid T)) (hr.mono (by decide)) T.g__law_bid T.k__law_bid T.b__law_bid (kpa (kvl 1) pa_nil)) (kpa (kcall (lift_A (T0 := T0) (q := qRef) (ok_law_formula T)) (hr.mono (by decide)) T.g__law_formula T.k__law_formula T.b__law_formula (kpa (kvl 1) pa_nil)) (kpa (kcall (lift_A (T0 := T0) (q := qRef) (drU_law_pick T)) (hr.mono (by decide)) T.g__law_pick T.k__law_pick T.b__law_pick (kpa (kvl 1) (kpa (pe_lst (kpa pe_int (kpa pe_int (kpa pe_int (kpa pe_int (kpa pe_int (kpa pe_int pa_nil))))))) pa_nil))) pa_nil)))) (kgt (n := 3) (by rfl) (kgs (kgl 3 sclaw.nd) (kgs (kgc 4 sclaw.nd) (kgs (kgl 5 sclaw.nd) pgs_nil)))))
      (pss_cons (ksl 6 sclaw.nd (pe_op (r := rRepL K) op_repL (kcall (lift_A (T0 := T0) (q := qRef) (ok_law_field T)) (hr.mono (by decide)) T.g__law_field T.k__law_field T.b__law_field (kpa (kvl 1) (kpa (kB (call_min2 rfl) T.n_min (kpa (kvl 5) (kpa pe_int pa_nil))) pa_nil))) (pe_op op_add pe_int (pe_op op_fdivW (kvl 5) pe_int))))
      (pss_cons (ksl 6 sclaw.nd (pe_op (r := rCatD K) op_catD (pe_slice (r := rSlL K) sl_list (kvl 6) po_none (po_some (kvl 5))) (pe_op (r := rRepL K) op_repL (pe_slice (r := rSlL K) sl_list (kvl 6) po_none (po_some pe_int)) (pe_op op_sub (kvl 5) (kB (r := rLenQ K) call_len_seq T.n_len (kpa (kvl 6) pa_nil))))))
      (pss_cons (ps_if (PW.pt (pw_or (pt_cmpR op_notBl (kcall (okis_bid T) (hr.mono (by decide)) T.g_is_bid T.k_is_bid T.b_is_bid (kpa (kvl 3) pa_nil)) pe_bl (nomark _)) (pw_or (pt_cmpR op_notBl (kcall (okis_field T) (hr.mono (by decide)) T.g_is_field T.k_is_field T.b_is_field (kpa (kvl 6) pa_nil)) pe_bl (nomark _)) (pw_or (pt_cmpR op_notBl (pe_fnK (okis_field T) (hr.mono (by decide)) rfl T.g_is_field T.k_is_field T.bk_is_field_thing (pk_cons (kTy (r := rTupOf K) call_tuple_of T.n_tuple (kpa (kvl 6) pa_nil)) pk_nil)) pe_bl (nomark _)) (pw_or1 (pt_cmpR op_notBl (kcall (okis_formula T) (hr.mono (by decide)) T.g_is_formula T.k_is_formula T.b_is_formula (kpa (kvc 4) pa_nil)) pe_bl (nomark _))))))) (pss_one (ps_ret pe_bl)) pss_nil)
      (pss_cons (kasg (kcall (lift_A (T0 := T0) (q := qRef) (ok_law_bent_bid T)) (hr.mono (by decide)) T.g__law_bent_bid T.k__law_bent_bid T.b__law_bent_bid (kpa (kvl 1) (kpa (kvl 3) pa_nil))) (kgt (n := 2) (by rfl) (kgs (kgl 7 sclaw.nd) (kgs (kgl 8 sclaw.nd) pgs_nil))))
      (pss_cons (ps_if (pt_cmpR op_ne (kB (cr_reprN hg (hu64 hr)) T.n_repr (kpa (pe_lst (kpa (pe_fnK (okis_bid T) (hr.mono (by decide)) rfl T.g_is_bid T.k_is_bid T.bk_is_bid_thing (pk_cons (kvl 7) pk_nil)) (kpa (kcall (okis_field T) (hr.mono (by decide)) T.g_is_field T.k_is_field T.b_is_field (kpa (pe_op (r := rCatD K) op_catD (pe_slice (r := rSlL K) sl_list (kvl 6) po_none (po_some pe_int)) (pe_lst (kpa (kvl 7) pa_nil))) pa_nil)) (kpa (kcall (okis_field T) (hr.mono (by decide)) T.g_is_field T.k_is_field T.b_is_field (kpa (pe_op (r := rCatD K) op_catD (pe_lst (kpa (kvl 7) pa_nil)) (pe_slice (r := rSlL K) sl_list (kvl 6) po_none (po_some pe_int))) pa_nil)) pa_nil)))) pa_nil)) (kB (cr_reprN hg (hu64 hr)) T.n_repr (kpa (pe_op op_rep (pe_lst (kpa (kvl 8) pa_nil)) pe_int) pa_nil)) (nomark _)) (pss_one (ps_ret pe_bl)) pss_nil)
      (pss_cons (ps_if (PW.pt (pw_or (pt_cmpR op_notBl (kcall (okis_field T) (hr.mono (by decide)) T.g_is_field T.k_is_field T.b_is_field (kpa (pe_op (r := rCatD K) op_catD (kvl 6) (pe_op op_rep (pe_lst (kpa (kvl 3) pa_nil)) (pe_op op_sub pe_int (kB (r := rLenQ K) call_len_seq T.n_len (kpa (kvl 6) pa_nil))))) pa_nil)) pe_bl (nomark _)) (pw_or1 (pt_cmpR op_notBl (kcall (okis_field T) (hr.mono (by decide)) T.g_is_field T.k_is_field T.b_is_field (kpa (kcall (ok_pick_raw T (lift_A (T0 := T0) (q := qRef) (drU_law_take T))) (hr.mono (by decide)) T.g__law_pick T.k__law_pick T.b__law_pick (kpa (kvl 1) (kpa (pe_lst (kpa pe_non (kpa pe_int (kpa pe_str (kpa pe_dnewK (kpa (kvl 3) pa_nil)))))) pa_nil))) pa_nil)) pe_bl (nomark _))))) (pss_one (ps_ret pe_bl)) pss_nil)
      (pss_cons (kasg (kcall (lift_A (T0 := T0) (q := qRef) (ok_law_bent_formula T)) (hr.mono (by decide)) T.g__law_bent_formula T.k__law_bent_formula T.b__law_bent_formula (kpa (kvl 1) (kpa (kvc 4) pa_nil))) (kgt (n := 2) (by rfl) (kgs (kgl 9 sclaw.nd) (kgs (kgl 8 sclaw.nd) pgs_nil))))
      (pss_cons (ps_if (pt_cmpR op_ne (kB (r := rReprB) cr_reprB T.n_repr (kpa (pe_fnK (okis_formula T) (hr.mono (by decide)) rfl T.g_is_formula T.k_is_formula T.bk_is_formula_thing (pk_cons (kvl 9) pk_nil)) pa_nil)) (kB (r := rReprB) cr_reprB T.n_repr (kpa (kvl 8) pa_nil)) (nomark _)) (pss_one (ps_ret pe_bl)) pss_nil)
      (pss_cons (ps_setLc (i := 10) (own := [("k", 12)]) (g := (gName 12)) (tt := tYes) (by rfl) sclaw.nd (by kernel_rfl) (by kernel_rfl) kswap (krg1 T.n_range (kpa pe_int pa_nil)) (blkOk_by (by kernel_rfl)) (fun _ _ _ _ _ => (kgc 12 sclaw.nd)) (fun _ _ _ _ _ => pts_nil) (fun _ _ _ _ _ => (kB (r := rSum K) (cr_sum rfl) T.n_sum (kpa (pe_lc (own := [("term", 11)]) (g := (gName 11)) (by rfl) sclaw.nd (show PI _ _ _ (iTup K _) from pi_tup (kvc 4)) (blkOk_by (by kernel_rfl)) (fun _ _ _ _ _ => (kgl 11 sclaw.nd)) (fun _ _ _ _ _ => (pts_one (PW.pt (pw_and (pt_cmpR op_eq (pe_ix (r := rIxT K) ix_tup (kvl 11) pe_int (fun _ _ => rfl)) pe_str (nomark _)) (pw_and1 (pt_cmpR op_eq (pe_ix (r := rIxT K) ix_tup (kvl 11) pe_int (fun _ _ => rfl)) (kvc 12) (nomark _))))))) (fun _ _ _ _ _ => (pe_ix (r := rIxT K) ix_tup (kvl 11) pe_int (fun _ _ => rfl)))) pa_nil))))
      (pss_cons (ps_if (pt_cmpR op_ne (kB (cr_reprN hg (hu64 hr)) T.n_repr (kpa (pe_fnKX (okmark_weights T) (hr.mono (by decide)) rfl T.g_mark_weights T.k_mark_weights T.bk_mark_weights_formula (pk_cons (kvc 4) pk_nil)) pa_nil)) (kB (cr_reprN hg (hu64 hr)) T.n_repr (kpa (kTy (r := rTupOf K) call_tuple_of T.n_tuple (kpa (kvl 10) pa_nil)) pa_nil)) (nomark _)) (pss_one (ps_ret pe_bl)) pss_nil)
      (pss_cons (ps_setLc (i := 10) (own := [("word", 13)]) (g := (gName 13)) (tt := tYes) (by rfl) sclaw.nd (by kernel_rfl) (by kernel_rfl) kswap (show PI _ _ _ (iList K _) from pi_list (pe_lst (kpa pe_str (kpa pe_str (kpa pe_str pa_nil))))) (blkOk_by (by kernel_rfl)) (fun _ _ _ _ _ => (kgc 13 sclaw.nd)) (fun _ _ _ _ _ => pts_nil) (fun _ _ _ _ _ => (kB (r := rSum K) (cr_sum rfl) T.n_sum (kpa (pe_lc (own := [("term", 11)]) (g := (gName 11)) (by rfl) sclaw.nd (show PI _ _ _ (iTup K _) from pi_tup (kvc 4)) (blkOk_by (by kernel_rfl)) (fun _ _ _ _ _ => (kgl 11 sclaw.nd)) (fun _ _ _ _ _ => (pts_one (pt_cmpR op_eq (pe_ix (r := rIxT K) ix_tup (kvl 11) pe_int (fun _ _ => rfl)) (kvc 13) (nomark _)))) (fun _ _ _ _ _ => (pe_ix (r := rIxT K) ix_tup (kvl 11) pe_int (fun _ _ => rfl)))) pa_nil))))
      (pss_one (ps_if (PW.pt (pw_or (pt_cmpR op_ne (kB (cr_reprN hg (hu64 hr)) T.n_repr (kpa (pe_fnKX (okrelative_weights T) (hr.mono (by decide)) rfl T.g_relative_weights T.k_relative_weights T.bk_relative_weights_formula (pk_cons (kvc 4) pk_nil)) pa_nil)) (kB (cr_reprN hg (hu64 hr)) T.n_repr (kpa (kTy (r := rTupOf K) call_tuple_of T.n_tuple (kpa (kvl 10) pa_nil)) pa_nil)) (nomark _)) (pw_or1 (pt_not (kval (kcall (ok_law_refused T TB ec) (hr.mono (by decide)) T.g__law_refused T.k__law_refused T.b__law_refused (kpa (kvl 1) (kpa (kvc 4) (kpa (kvl 6) pa_nil))))))))) (pss_one (ps_ret pe_bl)) pss_nil)))))))))))))))
      (pss_one (ps_ret pe_bl)))), fun a ns hl hT h => ?_⟩
  have h : At K W0 [T0] ⟨H, H⟩ [.dat (.list (ns.map .int)), .emp, .emp, .emp, .emp, .emp, .emp, .emp, .emp, .emp, .emp, .emp, .emp, .emp] (L2.start nlaw [.ref a]) H := h
  refine q_begunA (q := qRef) (ns := ns) h hT rfl hl fun A σ1 H1 h1 => ?_
  dsimp only [List.set] at h1
  refine js_go (env := [.dat (.list (ns.map .int)), .src, .emp, .emp, .emp, .emp, .emp, .emp, .emp, .emp, .emp, .emp, .emp, .emp]) (P := { nx := fun _ => False, rt := fun d => d = .bool true }) ?main h1 (.dat _ (.src (.emp (.emp (.emp (.emp (.emp (.emp (.emp (.emp (.emp (.emp (.emp (.emp .nil)))))))))))))) (fun _ q => q) (fun d v H e o => ?fin) (fun _ q => q) (fun _ q => q) (fun _ _ q => q) (fun _ _ _ _ q => q) fun _ q => q
  case fin =>
    subst e
    cases o
    rfl
  case main =>
    refine' js_cut (R := fun fr => ∀ (d2 : PyData) (x3 : Va) (f : List Tm) (x5 : Va) (gl : List Bid) (x7 x8 x9 xa xb xc xd : Va) (Q : Post), FormOk f → (∀ b ∈ gl, b.Ok) → gl.length ≤ 130 → (∀ a b c d e1 f g h i k l m : Va, Q.nx [.dat (.list (ns.map .int)), .src, a, b, c, d, e1, f, g, h, i, k, l, m]) → fr [.dat (.list (ns.map .int)), .src, .dat d2, x3, .dat (formD f), x5, .dat (.list (gl.map Bid.d)), x7, x8, x9, xa, xb, xc, xd] Q) ?g1 ?g2
    case g2 =>
      intro f3 j3 h3
      refine' js_cut (R := fun fr => ∀ (d2 : PyData) (bd : Bid) (f : List Tm) (x5 : Va) (gl : List Bid) (x7 x8 x9 xa xb xc xd : Va) (Q : Post), bd.Ok → FormOk f → (∀ b ∈ gl, b.Ok) → gl.length ≤ 130 → (∀ a b c d e1 f g h i k l m : Va, Q.nx [.dat (.list (ns.map .int)), .src, a, b, c, d, e1, f, g, h, i, k, l, m]) → fr [.dat (.list (ns.map .int)), .src, .dat d2, .dat bd.d, .dat (formD f), x5, .dat (.list (gl.map Bid.d)), x7, x8, x9, xa, xb, xc, xd] Q) ?h1 ?h2
      case h2 =>
        intro f2 j2 h2
        refine ⟨_, (jc_seq (jc_for (ji_rng1 (ja_cons (je_add je_int (je_min2 (ja_cons (je_len (ja_cons (je_var 0) ja_nil)) (ja_cons je_int ja_nil)))) ja_nil)) (jg_name 2) (jc_seq (jc_tgt (je_tup (ja_cons (je_callU 1 ja_nil) (ja_cons (je_callU 1 ja_nil) (ja_cons (je_callU 1 (ja_cons (je_lst (ja_cons je_int (ja_cons je_int (ja_cons je_int (ja_cons je_int (ja_cons je_int (ja_cons je_int ja_nil))))))) ja_nil)) ja_nil)))) (jg_tup (jgs_cons (jg_name 3) (jgs_cons (jg_name 4) (jgs_cons (jg_name 5) jgs_nil)))))
      (jc_seq (jc_asg 6 (je_repL (je_callU 1 (ja_cons (je_min2 (ja_cons (je_var 5) (ja_cons je_int ja_nil))) ja_nil)) (je_add je_int (je_divW (je_var 5) je_int))))
      (jc_seq (jc_asg 6 (je_catL (je_tillL (je_var 6) (je_var 5)) (je_repL (je_tillL (je_var 6) je_int) (je_sub (je_var 5) (je_len (ja_cons (je_var 6) ja_nil))))))
      (jc_seq (jc_if (jt_or (jt_test (je_notB (je_callP (ja_cons (je_var 3) ja_nil)) je_bl)) (jt_or (jt_test (je_notB (je_callYGA (ja_cons (je_var 6) ja_nil)) je_bl)) (jt_or (jt_test (je_notB (je_callKY (ja_cons (je_tupOf (ja_cons (je_var 6) ja_nil)) ja_nil)) je_bl)) (jt_test (je_notB (je_callP (ja_cons (je_var 4) ja_nil)) je_bl))))) (jc_ret je_bl) jc_next)
      j2)))))
      (jc_ret je_bl)), ?_⟩
        rfl'
        refine ⟨by split <;> omega, ?_⟩
        refine forW_of (fun j e => ∃ a b c d e1 f g h i k l m : Va, e = [.dat (.list (ns.map .int)), .src, a, b, c, d, e1, f, g, h, i, k, l, m]) ⟨.emp, .emp, .emp, .emp, .emp, .emp, .emp, .emp, .emp, .emp, .emp, .emp, rfl⟩ ?_ ?_
        · rintro j d hj _ ⟨a, b, c, d', e1, f0, g, h, i, k, l, m0, rfl⟩ Z hZ
          rfl'
          refine ⟨rfl, ?_⟩
          rintro _ ⟨bd, hb, rfl⟩
          rfl'
          refine ⟨rfl, ?_⟩
          rintro _ ⟨f, hf, rfl⟩
          rfl'
          refine pick_ok (by simp) (by show 6 ≤ 100000; decide) fun md hmd => ?_
          obtain ⟨m, rfl, hm⟩ : ∃ z : Int, md = .int z ∧ (z = 0 ∨ z = 1 ∨ z = 2 ∨ z = 5 ∨ z = 129 ∨ z = 130) := by
            simp only [List.mem_cons, List.not_mem_nil, or_false] at hmd
            rcases hmd with rfl | rfl | rfl | rfl | rfl | rfl <;> exact ⟨_, rfl, by simp⟩
          rfl'
          refine ⟨⟨_, by split <;> omega, by split <;> omega, rfl⟩, ?_⟩
          rintro _ ⟨m', fl0, em, hf0, lf0, rfl⟩
          obtain rfl : (if 5 < m then 5 else m) = m' := by injection em with e _; injection e
          have hl0 : (fl0.length : Int) = if 5 < m then 5 else m := by rw [lf0]; split <;> omega
          obtain ⟨k1, gl, hgl, lgl, eg⟩ := field_ok hf0 hm hl0
          have k2 := len_rep (1 + m / 6).toNat (fl0.map Bid.d)
          rfl'
          refine ⟨cdw (by decide) ((Nb.of (n := 10) (by decide) (by decide)).mono (by decide)), ?_⟩
          rfl'
          refine ⟨⟨by omega, by omega, by rw [Nat.mul_comm, ← k2]; omega⟩, ?_⟩
          rfl'
          refine ⟨by omega, ?_⟩
          rfl'
          refine ⟨by decide, ?_⟩
          rfl'
          refine ⟨⟨by omega, by omega, ?_⟩, ?_⟩
          · have : ((List.replicate (1 + m / 6).toNat (fl0.map Bid.d)).flatten.take (1 : Int).toNat).length ≤ 1 := by rw [List.length_take]; exact Nat.min_le_left _ _
            refine Nat.le_trans (Nat.mul_le_mul_right _ this) ?_
            show 1 * (m - _).toNat ≤ 100000
            omega
          rfl'
          rw [← List.length_append, eg]
          have lg : gl.length ≤ 130 := by omega
          refine ⟨by rw [List.length_map]; omega, ?_⟩
          rfl'
          refine ⟨_, ⟨bd.d, rfl, rfl⟩, ?_⟩
          rw [bid_ok hb]
          rfl'
          refine ⟨_, ⟨some _, rfl, rfl⟩, ?_⟩
          rw [show fieldO (some (.list (gl.map Bid.d))) = true from (field_is hgl lg).1]
          rfl'
          refine ⟨_, ⟨some _, rfl, rfl⟩, ?_⟩
          rw [show fieldO (some (.tuple (gl.map Bid.d))) = true from (field_is hgl lg).2]
          rfl'
          refine ⟨_, ⟨_, rfl, rfl⟩, ?_⟩
          rw [form_ok hf]
          rfl'
          exact h2 _ bd f _ gl _ _ _ _ _ _ _ _ hb hf hgl lg fun a b c d e1 f g h i k l m => hZ _ ⟨a, b, c, d, e1, f, g, h, i, k, l, m, rfl⟩
        · rintro _ ⟨a, b, c, d', e1, f, g, h, i, k, l, m, rfl⟩
          rfl'
      case h1 =>
        refine ⟨_, (jc_seq (jc_tgt (je_callU 1 (ja_cons (je_var 3) ja_nil)) (jg_tup (jgs_cons (jg_name 7) (jgs_cons (jg_name 8) jgs_nil))))
      (jc_seq (jc_if (jt_test (je_neS (je_reprN (ja_cons (je_lst (ja_cons (je_callK (ja_cons (je_var 7) ja_nil)) (ja_cons (je_callYGA (ja_cons (je_catL (je_tillL (je_var 6) je_int) (je_lst (ja_cons (je_var 7) ja_nil))) ja_nil)) (ja_cons (je_callYGA (ja_cons (je_catL (je_lst (ja_cons (je_var 7) ja_nil)) (je_tillL (je_var 6) je_int)) ja_nil)) ja_nil)))) ja_nil)) (je_reprN (ja_cons (je_of_jf (jf_rep (ja_cons (je_var 8) ja_nil) je_int)) ja_nil)))) (jc_ret je_bl) jc_next)
      (jc_seq (jc_if (jt_or (jt_test (je_notB (je_callYGA (ja_cons (je_catL (je_var 6) (je_of_jf (jf_rep (ja_cons (je_var 3) ja_nil) (je_sub je_int (je_len (ja_cons (je_var 6) ja_nil)))))) ja_nil)) je_bl)) (jt_test (je_notB (je_pickY 1 (jm2_cons je_non (jm2_cons je_int (jm2_cons je_str (jm2_dict (ja_cons (je_var 3) ja_nil)))))) je_bl))) (jc_ret je_bl) jc_next)
      (jc_seq (jc_tgt (je_callU 1 (ja_cons (je_var 4) ja_nil)) (jg_tup (jgs_cons (jg_name 9) (jgs_cons (jg_name 8) jgs_nil))))
      (jc_seq (jc_if (jt_test (je_neS (je_reprB (ja_cons (je_callK (ja_cons (je_var 9) ja_nil)) ja_nil)) (je_reprB (ja_cons (je_var 8) ja_nil)))) (jc_ret je_bl) jc_next)
      j3))))), ?_⟩
        intro d2 bd f x5 gl x7 x8 x9 xa xb xc xd Q hb hf hgl lg hQ
        rfl'
        refine ⟨⟨bd, hb, rfl⟩, ?_⟩
        rintro _ ⟨o, y, rfl, ho⟩
        have hn := field_near hgl ho
        rfl'
        refine ⟨_, ⟨o, rfl, rfl⟩, ?_⟩
        rw [ho]
        rfl'
        refine ⟨by decide, ?_⟩
        rfl'
        refine ⟨by rw [List.length_take, List.length_map]; show min 129 gl.length + 1 ≤ 100000; omega, ?_⟩
        rfl'
        refine ⟨_, ⟨some _, rfl, rfl⟩, ?_⟩
        rw [show fieldO (some (.list ((gl.map Bid.d).take (129 : Int).toNat ++ [o]))) = y from hn.1]
        rfl'
        refine ⟨by decide, ?_⟩
        rfl'
        refine ⟨by rw [List.length_take, List.length_map]; show 1 + min 129 gl.length ≤ 100000; omega, ?_⟩
        rfl'
        refine ⟨_, ⟨some _, rfl, rfl⟩, ?_⟩
        rw [show fieldO (some (.list ([o] ++ (gl.map Bid.d).take (129 : Int).toNat))) = y from hn.2]
        rfl'
        refine ⟨.inr (shows_bools y), ?_⟩
        rfl'
        refine ⟨⟨by decide, by decide⟩, ?_⟩
        rfl'
        refine ⟨.inr (shows_bools y), ?_⟩
        rfl'
        refine ifK_f (by
          show ng true (decide ((PyData.list [.bool y, .bool y, .bool y]).shown = (PyData.list [.bool y, .bool y, .bool y]).shown)) = false
          rw [decide_eq_true rfl]
          rfl) ?_
        rfl'
        refine ⟨⟨by rw [List.length_map]; omega, by rw [List.length_map]; omega⟩, ?_⟩
        rfl'
        refine ⟨by rw [List.length_replicate, List.length_map]; omega, ?_⟩
        rfl'
        refine ⟨_, ⟨some _, rfl, rfl⟩, ?_⟩
        have big : fieldB (.list (gl.map Bid.d ++ List.replicate (131 - ((gl.map Bid.d).length : Int)).toNat bd.d)) = false := by
          show (decide ((gl.map Bid.d ++ List.replicate (131 - ((gl.map Bid.d).length : Int)).toNat bd.d).length ≤ 130) && _) = false
          rw [decide_eq_false (by rw [List.length_append, List.length_replicate, List.length_map]; omega)]
          rfl
        rw [show fieldO (some (.list (gl.map Bid.d ++ List.replicate (131 - ((gl.map Bid.d).length : Int)).toNat bd.d))) = false from big]
        rfl'
        refine ⟨⟨by simp, by show 5 ≤ 1000; decide⟩, fun ap hap => ⟨_, ⟨ap, rfl, rfl⟩, ?_⟩⟩
        have fap : fieldO ap = false := by
          simp only [List.mem_cons, List.not_mem_nil, or_false, List.map_cons, List.map_nil] at hap
          rcases hap with rfl | rfl | rfl | rfl | rfl
          · rfl
          · rfl
          · rfl
          · rfl
          · show (decide (3 ≤ 130) && [PyData.str "bid", .int bd.price, .tuple (bd.marks.map .int)].all bidB) = false
            rfl
        rw [fap]
        rfl'
        refine ⟨⟨f, hf, rfl⟩, ?_⟩
        rintro _ ⟨z, y2, rfl, hz⟩
        rfl'
        refine ⟨_, ⟨z, rfl, rfl⟩, ?_⟩
        rw [hz]
        rfl'
        refine ifK_f (by cases y2 <;> decide +kernel) ?_
        rfl'
        exact h3 _ _ f _ gl _ _ _ _ _ _ _ _ hf hgl lg hQ
    case g1 =>
      refine ⟨_, (jc_seq (jc_asg 10 (je_of_jf (jf_lc (ji_rng1 (ja_cons je_int ja_nil)) (jg_name 12) jt_yes (je_sum (ja_cons (je_of_jf (jf_lc (ji_tup (je_var 4)) (jg_name 11) (jt_and (jt_test (je_eqS (je_ixT (je_var 11) je_int) je_str)) (jt_test (je_eqS (je_ixT (je_var 11) je_int) (je_var 12)))) (je_ixT (je_var 11) je_int) (by decide))) ja_nil)) (by decide))))
      (jc_seq (jc_if (jt_test (je_neS (je_reprN (ja_cons (je_callK1 (ja_cons (je_var 4) ja_nil)) ja_nil)) (je_reprN (ja_cons (je_tupOf (ja_cons (je_var 10) ja_nil)) ja_nil)))) (jc_ret je_bl) jc_next)
      (jc_seq (jc_asg 10 (je_of_jf (jf_lc (ji_list (je_lst (ja_cons je_str (ja_cons je_str (ja_cons je_str ja_nil))))) (jg_name 13) jt_yes (je_sum (ja_cons (je_of_jf (jf_lc (ji_tup (je_var 4)) (jg_name 11) (jt_test (je_eqS (je_ixT (je_var 11) je_int) (je_var 13))) (je_ixT (je_var 11) je_int) (by decide))) ja_nil)) (by decide))))
      (jc_if (jt_or (jt_test (je_neS (je_reprN (ja_cons (je_callK1 (ja_cons (je_var 4) ja_nil)) ja_nil)) (je_reprN (ja_cons (je_tupOf (ja_cons (je_var 10) ja_nil)) ja_nil)))) (jt_not (jt_B (je_callU 1 (ja_cons (je_var 4) (ja_cons (je_var 6) ja_nil)))))) (jc_ret je_bl) jc_next)))), ?_⟩
      intro d2 x3 f x5 gl x7 x8 x9 xa xb xc xd Q hf hgl lg hQ
      rfl'
      refine ⟨by decide, by rw [rangeD_len]; decide, ?_⟩
      refine lcW_map (α := Nat) (xs := [0, 1, 2, 3]) (enc := fun k => .int (k : Int)) (f := fun k => .int (ms k f)) (fun k _ A C hA => ?_) ?_
      · rfl'
        refine ⟨by rw [List.length_map]; have := hf.1; omega, ?_⟩
        refine lcW_fil (f := fun t : Tm => .int t.w) (p := isMk k) (fun t ht A C k1 k0 => ?_) ?_
        · cases t with
          | mark j w =>
            rfl'
            refine ifK_of (fun e => ?_) fun e => ?_
            · have e : decide ((j : Int) = (k : Int)) = true := e
              rfl'
              exact k1 (by show decide (j = k) = true; rw [← e]; exact decide_eq_decide.mpr (by omega))
            · have e : decide ((j : Int) = (k : Int)) = false := e
              exact k0 (by show decide (j = k) = false; rw [← e]; exact decide_eq_decide.mpr (by omega))
          | rel r w =>
            rfl'
            refine ifK_f (show ng false (decide (r.s = "mark")) = false from by rw [decide_eq_false (rel_nm r)]; rfl) ?_
            exact k0 rfl
        · refine ⟨(f.filter (isMk k)).map Tm.w, by rw [List.map_map]; rfl, ?_⟩
          exact hA
      rfl'
      have em : mwD f = .tuple ([ms 0 f, ms 1 f, ms 2 f, ms 3 f].map .int) := by
        show PyData.tuple ((mw f).map .int) = _
        rw [mw_eq hf.2]
      have sm : Shows (.tuple ([ms 0 f, ms 1 f, ms 2 f, ms 3 f].map .int)) := shows_ints (by show 4 ≤ 4; decide) fun x hx => by
        simp only [List.mem_cons, List.not_mem_nil, or_false] at hx
        rcases hx with rfl | rfl | rfl | rfl <;> exact ms_bound hf _
      refine ⟨_, .inl ⟨f, hf, rfl, rfl⟩, ?_⟩
      rw [em]
      rfl'
      refine ⟨.inr sm, ?_⟩
      rfl'
      refine ⟨.inr sm, ?_⟩
      rfl'
      refine ifK_f (by
        show ng true (decide ((PyData.tuple ([ms 0 f, ms 1 f, ms 2 f, ms 3 f].map .int)).shown = (PyData.tuple ([ms 0 f, ms 1 f, ms 2 f, ms 3 f].map .int)).shown)) = false
        rw [decide_eq_true rfl]
        rfl) ?_
      rfl'
      refine ⟨by decide, ?_⟩
      refine lcW_map (α := Rel) (xs := [.low, .range, .mean]) (enc := fun r => .str r.s) (f := fun r => .int (rs r f)) (fun r _ A C hA => ?_) ?_
      · rfl'
        refine ⟨by rw [List.length_map]; have := hf.1; omega, ?_⟩
        refine lcW_fil (f := fun t : Tm => .int t.w) (p := isRel r) (fun t ht A C k1 k0 => ?_) ?_
        · cases t with
          | mark k x =>
            rfl'
            refine ifK_f (show ng false (decide (("mark" : Str) = r.s)) = false from by rw [mark_s r]; rfl) ?_
            exact k0 rfl
          | rel q x =>
            rfl'
            refine ifK_of (fun e => ?_) fun e => ?_
            · have e : decide (q.s = r.s) = true := e
              rw [rel_s] at e
              rfl'
              exact k1 e
            · have e : decide (q.s = r.s) = false := e
              rw [rel_s] at e
              exact k0 e
        · refine ⟨(f.filter (isRel r)).map Tm.w, by rw [List.map_map]; rfl, ?_⟩
          exact hA
      rfl'
      have sr : Shows (.tuple ([rs .low f, rs .range f, rs .mean f].map .int)) := shows_ints (by show 3 ≤ 4; decide) fun x hx => by
        simp only [List.mem_cons, List.not_mem_nil, or_false] at hx
        rcases hx with rfl | rfl | rfl <;> exact rs_bound hf _
      refine ⟨_, .inl ⟨f, hf, rfl, rfl⟩, ?_⟩
      rfl'
      refine ⟨.inr sr, ?_⟩
      rfl'
      refine ⟨.inr sr, ?_⟩
      rfl'
      refine ifK_f (by
        show ng true (decide ((PyData.tuple ([rs .low f, rs .range f, rs .mean f].map .int)).shown = (PyData.tuple ([rs .low f, rs .range f, rs .mean f].map .int)).shown)) = false
        rw [decide_eq_true rfl]
        rfl) ?_
      rfl'
      refine ⟨⟨formD f, gl.map Bid.d, form_ok hf, (field_is hgl lg).1, rfl⟩, ?_⟩
      rintro _ rfl
      rfl'
      exact hQ _ _ _ _ _ _ _ _ _ _ _ _
end
end Sc

/-! the text as it stands behind the top. -/
namespace Sc
open PySem L2 Fw
open PyProof.Rows
@[reducible] def txt_mk {K : PySem.W.Frag} {h : Heap} {mg : Str → Option Value} (X : K.In h) (G : h.Ns mainGlobals mg)
    {ais_whole : Addr} {odis_whole anis_whole : Option Addr} {slis_whole : Array (Option Value)} {ocis_whole kVis_whole dcis_whole pmis_whole cdis_whole ctis_whole : Value}
    {ais_bid : Addr} {odis_bid anis_bid : Option Addr} {slis_bid : Array (Option Value)} {ocis_bid kVis_bid dcis_bid pmis_bid cdis_bid ctis_bid : Value}
    {ais_field : Addr} {odis_field anis_field : Option Addr} {slis_field : Array (Option Value)} {ocis_field kVis_field dcis_field pmis_field cdis_field ctis_field : Value}
    {aneed_field : Addr} {odneed_field anneed_field : Option Addr} {slneed_field : Array (Option Value)} {ocneed_field kVneed_field dcneed_field pmneed_field cdneed_field ctneed_field : Value}
    {aneed_index : Addr} {odneed_index anneed_index : Option Addr} {slneed_index : Array (Option Value)} {ocneed_index kVneed_index dcneed_index pmneed_index cdneed_index ctneed_index : Value}
    {ais_term : Addr} {odis_term anis_term : Option Addr} {slis_term : Array (Option Value)} {ocis_term kVis_term dcis_term pmis_term cdis_term ctis_term : Value}
    {ais_formula : Addr} {odis_formula anis_formula : Option Addr} {slis_formula : Array (Option Value)} {ocis_formula kVis_formula dcis_formula pmis_formula cdis_formula ctis_formula : Value}
    {aneed_formula : Addr} {odneed_formula anneed_formula : Option Addr} {slneed_formula : Array (Option Value)} {ocneed_formula kVneed_formula dcneed_formula pmneed_formula cdneed_formula ctneed_formula : Value}
    {amark_weights : Addr} {odmark_weights anmark_weights : Option Addr} {slmark_weights : Array (Option Value)} {ocmark_weights kVmark_weights dcmark_weights pmmark_weights cdmark_weights ctmark_weights : Value}
    {arelative_weights : Addr} {odrelative_weights anrelative_weights : Option Addr} {slrelative_weights : Array (Option Value)} {ocrelative_weights kVrelative_weights dcrelative_weights pmrelative_weights cdrelative_weights ctrelative_weights : Value}
    {aleast_mark_sum : Addr} {odleast_mark_sum anleast_mark_sum : Option Addr} {slleast_mark_sum : Array (Option Value)} {ocleast_mark_sum kVleast_mark_sum dcleast_mark_sum pmleast_mark_sum cdleast_mark_sum ctleast_mark_sum : Value}
    {apasses : Addr} {odpasses anpasses : Option Addr} {slpasses : Array (Option Value)} {ocpasses kVpasses dcpasses pmpasses cdpasses ctpasses : Value}
    {aturn : Addr} {odturn anturn : Option Addr} {slturn : Array (Option Value)} {octurn kVturn dcturn pmturn cdturn ctturn : Value}
    {ascore : Addr} {odscore anscore : Option Addr} {slscore : Array (Option Value)} {ocscore kVscore dcscore pmscore cdscore ctscore : Value}
    {ascores : Addr} {odscores anscores : Option Addr} {slscores : Array (Option Value)} {ocscores kVscores dcscores pmscores cdscores ctscores : Value}
    {aranking : Addr} {odranking anranking : Option Addr} {slranking : Array (Option Value)} {ocranking kVranking dcranking pmranking cdranking ctranking : Value}
    {aahead : Addr} {odahead anahead : Option Addr} {slahead : Array (Option Value)} {ocahead kVahead dcahead pmahead cdahead ctahead : Value}
    {aspoilers : Addr} {odspoilers anspoilers : Option Addr} {slspoilers : Array (Option Value)} {ocspoilers kVspoilers dcspoilers pmspoilers cdspoilers ctspoilers : Value}
    {afirst_spoilers : Addr} {odfirst_spoilers anfirst_spoilers : Option Addr} {slfirst_spoilers : Array (Option Value)} {ocfirst_spoilers kVfirst_spoilers dcfirst_spoilers pmfirst_spoilers cdfirst_spoilers ctfirst_spoilers : Value}
    {ais_turn : Addr} {odis_turn anis_turn : Option Addr} {slis_turn : Array (Option Value)} {ocis_turn kVis_turn dcis_turn pmis_turn cdis_turn ctis_turn : Value}
    {a_law_begun : Addr} {od_law_begun an_law_begun : Option Addr} {sl_law_begun : Array (Option Value)} {oc_law_begun kV_law_begun dc_law_begun pm_law_begun cd_law_begun ct_law_begun : Value}
    {a_law_mixed : Addr} {od_law_mixed an_law_mixed : Option Addr} {sl_law_mixed : Array (Option Value)} {oc_law_mixed kV_law_mixed dc_law_mixed pm_law_mixed cd_law_mixed ct_law_mixed : Value}
    {a_law_take : Addr} {od_law_take an_law_take : Option Addr} {sl_law_take : Array (Option Value)} {oc_law_take kV_law_take dc_law_take pm_law_take cd_law_take ct_law_take : Value}
    {a_law_pick : Addr} {od_law_pick an_law_pick : Option Addr} {sl_law_pick : Array (Option Value)} {oc_law_pick kV_law_pick dc_law_pick pm_law_pick cd_law_pick ct_law_pick : Value}
    {a_law_caught : Addr} {od_law_caught an_law_caught : Option Addr} {sl_law_caught : Array (Option Value)} {oc_law_caught kV_law_caught dc_law_caught pm_law_caught cd_law_caught ct_law_caught : Value}
    {a_law_price : Addr} {od_law_price an_law_price : Option Addr} {sl_law_price : Array (Option Value)} {oc_law_price kV_law_price dc_law_price pm_law_price cd_law_price ct_law_price : Value}
    {a_law_bid : Addr} {od_law_bid an_law_bid : Option Addr} {sl_law_bid : Array (Option Value)} {oc_law_bid kV_law_bid dc_law_bid pm_law_bid cd_law_bid ct_law_bid : Value}
    {a_law_field : Addr} {od_law_field an_law_field : Option Addr} {sl_law_field : Array (Option Value)} {oc_law_field kV_law_field dc_law_field pm_law_field cd_law_field ct_law_field : Value}
    {a_law_formula : Addr} {od_law_formula an_law_formula : Option Addr} {sl_law_formula : Array (Option Value)} {oc_law_formula kV_law_formula dc_law_formula pm_law_formula cd_law_formula ct_law_formula : Value}
    {a_law_bent_bid : Addr} {od_law_bent_bid an_law_bent_bid : Option Addr} {sl_law_bent_bid : Array (Option Value)} {oc_law_bent_bid kV_law_bent_bid dc_law_bent_bid pm_law_bent_bid cd_law_bent_bid ct_law_bent_bid : Value}
    {a_law_bent_formula : Addr} {od_law_bent_formula an_law_bent_formula : Option Addr} {sl_law_bent_formula : Array (Option Value)} {oc_law_bent_formula kV_law_bent_formula dc_law_bent_formula pm_law_bent_formula cd_law_bent_formula ct_law_bent_formula : Value}
    {a_law_is_kind : Addr} {od_law_is_kind an_law_is_kind : Option Addr} {sl_law_is_kind : Array (Option Value)} {oc_law_is_kind kV_law_is_kind dc_law_is_kind pm_law_is_kind cd_law_is_kind ct_law_is_kind : Value}
    {a_law_refused : Addr} {od_law_refused an_law_refused : Option Addr} {sl_law_refused : Array (Option Value)} {oc_law_refused kV_law_refused dc_law_refused pm_law_refused cd_law_refused ct_law_refused : Value}
    {alaw : Addr} {odlaw anlaw : Option Addr} {sllaw : Array (Option Value)} {oclaw kVlaw dclaw pmlaw cdlaw ctlaw : Value}
    {cTenderError : Addr} (q_TenderError : PySem.W.nsIn K mainGlobals "TenderError" = some (some (.ref cTenderError))) (x_TenderError : PySem.W.excIn K cTenderError [.type "ValueError", .type "Exception", .type "BaseException", .type "object"] "ValueError.__new__" = true) (k_TenderError : PySem.W.keepIn K (.ref cTenderError) = true) (b_TenderError : PySem.W.subIn K (.ref cTenderError) (.type "BaseException") = some true) (t_TenderError : PySem.W.typeIn K (.ref cTenderError) = some (.type "type")) (i_TenderError : PySem.W.isClsIn K cTenderError = true)
    (hg_TenderError : PySem.W.findIn K (.ref cTenderError) "__getattribute__" = some (some (.builtin "BaseException.__getattribute__"))) (hk_TenderError : PySem.W.findIn K (.ref cTenderError) "__getattr__" = some none) (hd_TenderError : PySem.W.hasDictIn K cTenderError = true) (ha_TenderError : PySem.W.findIn K (.ref cTenderError) "__class__" = some (some (.builtin "object.__class__"))) (hm_TenderError : PySem.W.mroIn K cTenderError (.type "object") = some true)
    {cBadField : Addr} (q_BadField : PySem.W.nsIn K mainGlobals "BadField" = some (some (.ref cBadField))) (x_BadField : PySem.W.excIn K cBadField [.type "ValueError", .type "Exception", .type "BaseException", .type "object"] "ValueError.__new__" = true) (k_BadField : PySem.W.keepIn K (.ref cBadField) = true) (b_BadField : PySem.W.subIn K (.ref cBadField) (.type "BaseException") = some true) (t_BadField : PySem.W.typeIn K (.ref cBadField) = some (.type "type")) (i_BadField : PySem.W.isClsIn K cBadField = true)
    (hg_BadField : PySem.W.findIn K (.ref cBadField) "__getattribute__" = some (some (.builtin "BaseException.__getattribute__"))) (hk_BadField : PySem.W.findIn K (.ref cBadField) "__getattr__" = some none) (hd_BadField : PySem.W.hasDictIn K cBadField = true) (ha_BadField : PySem.W.findIn K (.ref cBadField) "__class__" = some (some (.builtin "object.__class__"))) (hm_BadField : PySem.W.mroIn K cBadField (.type "object") = some true)
    {cBadFormula : Addr} (q_BadFormula : PySem.W.nsIn K mainGlobals "BadFormula" = some (some (.ref cBadFormula))) (x_BadFormula : PySem.W.excIn K cBadFormula [.type "ValueError", .type "Exception", .type "BaseException", .type "object"] "ValueError.__new__" = true) (k_BadFormula : PySem.W.keepIn K (.ref cBadFormula) = true) (b_BadFormula : PySem.W.subIn K (.ref cBadFormula) (.type "BaseException") = some true) (t_BadFormula : PySem.W.typeIn K (.ref cBadFormula) = some (.type "type")) (i_BadFormula : PySem.W.isClsIn K cBadFormula = true)
    (hg_BadFormula : PySem.W.findIn K (.ref cBadFormula) "__getattribute__" = some (some (.builtin "BaseException.__getattribute__"))) (hk_BadFormula : PySem.W.findIn K (.ref cBadFormula) "__getattr__" = some none) (hd_BadFormula : PySem.W.hasDictIn K cBadFormula = true) (ha_BadFormula : PySem.W.findIn K (.ref cBadFormula) "__class__" = some (some (.builtin "object.__class__"))) (hm_BadFormula : PySem.W.mroIn K cBadFormula (.type "object") = some true)
    {cBadIndex : Addr} (q_BadIndex : PySem.W.nsIn K mainGlobals "BadIndex" = some (some (.ref cBadIndex))) (x_BadIndex : PySem.W.excIn K cBadIndex [.type "ValueError", .type "Exception", .type "BaseException", .type "object"] "ValueError.__new__" = true) (k_BadIndex : PySem.W.keepIn K (.ref cBadIndex) = true) (b_BadIndex : PySem.W.subIn K (.ref cBadIndex) (.type "BaseException") = some true) (t_BadIndex : PySem.W.typeIn K (.ref cBadIndex) = some (.type "type")) (i_BadIndex : PySem.W.isClsIn K cBadIndex = true)
    (hg_BadIndex : PySem.W.findIn K (.ref cBadIndex) "__getattribute__" = some (some (.builtin "BaseException.__getattribute__"))) (hk_BadIndex : PySem.W.findIn K (.ref cBadIndex) "__getattr__" = some none) (hd_BadIndex : PySem.W.hasDictIn K cBadIndex = true) (ha_BadIndex : PySem.W.findIn K (.ref cBadIndex) "__class__" = some (some (.builtin "object.__class__"))) (hm_BadIndex : PySem.W.mroIn K cBadIndex (.type "object") = some true)
    (hn_x : PySem.W.specialIn K (.builtin "object.__class__") "__get__" = some (some (.builtin "getset_descriptor.__get__"))) (ht_x : PySem.W.takesIn K (.builtin "object.__class__") = some true)
    (su_BadField_TenderError : PySem.W.subIn K (.ref cBadField) (.ref cTenderError) = some true)
    (su_BadFormula_TenderError : PySem.W.subIn K (.ref cBadFormula) (.ref cTenderError) = some true)
    (su_BadIndex_TenderError : PySem.W.subIn K (.ref cBadIndex) (.ref cTenderError) = some true)
    (su_BadField_BadField : PySem.W.subIn K (.ref cBadField) (.ref cBadField) = some true)
    (su_BadField_BadFormula : PySem.W.subIn K (.ref cBadField) (.ref cBadFormula) = some false)
    (su_BadField_BadIndex : PySem.W.subIn K (.ref cBadField) (.ref cBadIndex) = some false)
    (su_BadFormula_BadField : PySem.W.subIn K (.ref cBadFormula) (.ref cBadField) = some false)
    (su_BadFormula_BadFormula : PySem.W.subIn K (.ref cBadFormula) (.ref cBadFormula) = some true)
    (su_BadFormula_BadIndex : PySem.W.subIn K (.ref cBadFormula) (.ref cBadIndex) = some false)
    (su_BadIndex_BadField : PySem.W.subIn K (.ref cBadIndex) (.ref cBadField) = some false)
    (su_BadIndex_BadFormula : PySem.W.subIn K (.ref cBadIndex) (.ref cBadFormula) = some false)
    (su_BadIndex_BadIndex : PySem.W.subIn K (.ref cBadIndex) (.ref cBadIndex) = some true)
    (a_is_whole : PySem.W.nsIn K mainGlobals "is_whole" = some (some (.ref ais_whole))) (l_is_whole : K.lookup ais_whole = some ⟨ocis_whole, odis_whole, .func (PySem.W.fnOf "is_whole" "is_whole" (defArgs sis_whole) (defBody sis_whole) (defScope sis_whole) .none kVis_whole dcis_whole pmis_whole anis_whole cdis_whole ctis_whole), slis_whole⟩) (c_is_whole : PySem.W.codeIn K cdis_whole "is_whole" = true) (k_is_whole : PySem.W.keepIn K (.ref ais_whole) = true)
    (a_is_bid : PySem.W.nsIn K mainGlobals "is_bid" = some (some (.ref ais_bid))) (l_is_bid : K.lookup ais_bid = some ⟨ocis_bid, odis_bid, .func (PySem.W.fnOf "is_bid" "is_bid" (defArgs sis_bid) (defBody sis_bid) (defScope sis_bid) .none kVis_bid dcis_bid pmis_bid anis_bid cdis_bid ctis_bid), slis_bid⟩) (c_is_bid : PySem.W.codeIn K cdis_bid "is_bid" = true) (k_is_bid : PySem.W.keepIn K (.ref ais_bid) = true)
    (a_is_field : PySem.W.nsIn K mainGlobals "is_field" = some (some (.ref ais_field))) (l_is_field : K.lookup ais_field = some ⟨ocis_field, odis_field, .func (PySem.W.fnOf "is_field" "is_field" (defArgs sis_field) (defBody sis_field) (defScope sis_field) .none kVis_field dcis_field pmis_field anis_field cdis_field ctis_field), slis_field⟩) (c_is_field : PySem.W.codeIn K cdis_field "is_field" = true) (k_is_field : PySem.W.keepIn K (.ref ais_field) = true)
    (a_need_field : PySem.W.nsIn K mainGlobals "need_field" = some (some (.ref aneed_field))) (l_need_field : K.lookup aneed_field = some ⟨ocneed_field, odneed_field, .func (PySem.W.fnOf "need_field" "need_field" (defArgs sneed_field) (defBody sneed_field) (defScope sneed_field) .none kVneed_field dcneed_field pmneed_field anneed_field cdneed_field ctneed_field), slneed_field⟩) (c_need_field : PySem.W.codeIn K cdneed_field "need_field" = true) (k_need_field : PySem.W.keepIn K (.ref aneed_field) = true)
    (a_need_index : PySem.W.nsIn K mainGlobals "need_index" = some (some (.ref aneed_index))) (l_need_index : K.lookup aneed_index = some ⟨ocneed_index, odneed_index, .func (PySem.W.fnOf "need_index" "need_index" (defArgs sneed_index) (defBody sneed_index) (defScope sneed_index) .none kVneed_index dcneed_index pmneed_index anneed_index cdneed_index ctneed_index), slneed_index⟩) (c_need_index : PySem.W.codeIn K cdneed_index "need_index" = true) (k_need_index : PySem.W.keepIn K (.ref aneed_index) = true)
    (a_is_term : PySem.W.nsIn K mainGlobals "is_term" = some (some (.ref ais_term))) (l_is_term : K.lookup ais_term = some ⟨ocis_term, odis_term, .func (PySem.W.fnOf "is_term" "is_term" (defArgs sis_term) (defBody sis_term) (defScope sis_term) .none kVis_term dcis_term pmis_term anis_term cdis_term ctis_term), slis_term⟩) (c_is_term : PySem.W.codeIn K cdis_term "is_term" = true) (k_is_term : PySem.W.keepIn K (.ref ais_term) = true)
    (a_is_formula : PySem.W.nsIn K mainGlobals "is_formula" = some (some (.ref ais_formula))) (l_is_formula : K.lookup ais_formula = some ⟨ocis_formula, odis_formula, .func (PySem.W.fnOf "is_formula" "is_formula" (defArgs sis_formula) (defBody sis_formula) (defScope sis_formula) .none kVis_formula dcis_formula pmis_formula anis_formula cdis_formula ctis_formula), slis_formula⟩) (c_is_formula : PySem.W.codeIn K cdis_formula "is_formula" = true) (k_is_formula : PySem.W.keepIn K (.ref ais_formula) = true)
    (a_need_formula : PySem.W.nsIn K mainGlobals "need_formula" = some (some (.ref aneed_formula))) (l_need_formula : K.lookup aneed_formula = some ⟨ocneed_formula, odneed_formula, .func (PySem.W.fnOf "need_formula" "need_formula" (defArgs sneed_formula) (defBody sneed_formula) (defScope sneed_formula) .none kVneed_formula dcneed_formula pmneed_formula anneed_formula cdneed_formula ctneed_formula), slneed_formula⟩) (c_need_formula : PySem.W.codeIn K cdneed_formula "need_formula" = true) (k_need_formula : PySem.W.keepIn K (.ref aneed_formula) = true)
    (a_mark_weights : PySem.W.nsIn K mainGlobals "mark_weights" = some (some (.ref amark_weights))) (l_mark_weights : K.lookup amark_weights = some ⟨ocmark_weights, odmark_weights, .func (PySem.W.fnOf "mark_weights" "mark_weights" (defArgs smark_weights) (defBody smark_weights) (defScope smark_weights) .none kVmark_weights dcmark_weights pmmark_weights anmark_weights cdmark_weights ctmark_weights), slmark_weights⟩) (c_mark_weights : PySem.W.codeIn K cdmark_weights "mark_weights" = true) (k_mark_weights : PySem.W.keepIn K (.ref amark_weights) = true)
    (a_relative_weights : PySem.W.nsIn K mainGlobals "relative_weights" = some (some (.ref arelative_weights))) (l_relative_weights : K.lookup arelative_weights = some ⟨ocrelative_weights, odrelative_weights, .func (PySem.W.fnOf "relative_weights" "relative_weights" (defArgs srelative_weights) (defBody srelative_weights) (defScope srelative_weights) .none kVrelative_weights dcrelative_weights pmrelative_weights anrelative_weights cdrelative_weights ctrelative_weights), slrelative_weights⟩) (c_relative_weights : PySem.W.codeIn K cdrelative_weights "relative_weights" = true) (k_relative_weights : PySem.W.keepIn K (.ref arelative_weights) = true)
    (a_least_mark_sum : PySem.W.nsIn K mainGlobals "least_mark_sum" = some (some (.ref aleast_mark_sum))) (l_least_mark_sum : K.lookup aleast_mark_sum = some ⟨ocleast_mark_sum, odleast_mark_sum, .func (PySem.W.fnOf "least_mark_sum" "least_mark_sum" (defArgs sleast_mark_sum) (defBody sleast_mark_sum) (defScope sleast_mark_sum) .none kVleast_mark_sum dcleast_mark_sum pmleast_mark_sum anleast_mark_sum cdleast_mark_sum ctleast_mark_sum), slleast_mark_sum⟩) (c_least_mark_sum : PySem.W.codeIn K cdleast_mark_sum "least_mark_sum" = true) (k_least_mark_sum : PySem.W.keepIn K (.ref aleast_mark_sum) = true)
    (a_passes : PySem.W.nsIn K mainGlobals "passes" = some (some (.ref apasses))) (l_passes : K.lookup apasses = some ⟨ocpasses, odpasses, .func (PySem.W.fnOf "passes" "passes" (defArgs spasses) (defBody spasses) (defScope spasses) .none kVpasses dcpasses pmpasses anpasses cdpasses ctpasses), slpasses⟩) (c_passes : PySem.W.codeIn K cdpasses "passes" = true) (k_passes : PySem.W.keepIn K (.ref apasses) = true)
    (a_turn : PySem.W.nsIn K mainGlobals "turn" = some (some (.ref aturn))) (l_turn : K.lookup aturn = some ⟨octurn, odturn, .func (PySem.W.fnOf "turn" "turn" (defArgs sturn) (defBody sturn) (defScope sturn) .none kVturn dcturn pmturn anturn cdturn ctturn), slturn⟩) (c_turn : PySem.W.codeIn K cdturn "turn" = true) (k_turn : PySem.W.keepIn K (.ref aturn) = true)
    (a_score : PySem.W.nsIn K mainGlobals "score" = some (some (.ref ascore))) (l_score : K.lookup ascore = some ⟨ocscore, odscore, .func (PySem.W.fnOf "score" "score" (defArgs sscore) (defBody sscore) (defScope sscore) .none kVscore dcscore pmscore anscore cdscore ctscore), slscore⟩) (c_score : PySem.W.codeIn K cdscore "score" = true) (k_score : PySem.W.keepIn K (.ref ascore) = true)
    (a_scores : PySem.W.nsIn K mainGlobals "scores" = some (some (.ref ascores))) (l_scores : K.lookup ascores = some ⟨ocscores, odscores, .func (PySem.W.fnOf "scores" "scores" (defArgs sscores) (defBody sscores) (defScope sscores) .none kVscores dcscores pmscores anscores cdscores ctscores), slscores⟩) (c_scores : PySem.W.codeIn K cdscores "scores" = true) (k_scores : PySem.W.keepIn K (.ref ascores) = true)
    (a_ranking : PySem.W.nsIn K mainGlobals "ranking" = some (some (.ref aranking))) (l_ranking : K.lookup aranking = some ⟨ocranking, odranking, .func (PySem.W.fnOf "ranking" "ranking" (defArgs sranking) (defBody sranking) (defScope sranking) .none kVranking dcranking pmranking anranking cdranking ctranking), slranking⟩) (c_ranking : PySem.W.codeIn K cdranking "ranking" = true) (k_ranking : PySem.W.keepIn K (.ref aranking) = true)
    (a_ahead : PySem.W.nsIn K mainGlobals "ahead" = some (some (.ref aahead))) (l_ahead : K.lookup aahead = some ⟨ocahead, odahead, .func (PySem.W.fnOf "ahead" "ahead" (defArgs sahead) (defBody sahead) (defScope sahead) .none kVahead dcahead pmahead anahead cdahead ctahead), slahead⟩) (c_ahead : PySem.W.codeIn K cdahead "ahead" = true) (k_ahead : PySem.W.keepIn K (.ref aahead) = true)
    (a_spoilers : PySem.W.nsIn K mainGlobals "spoilers" = some (some (.ref aspoilers))) (l_spoilers : K.lookup aspoilers = some ⟨ocspoilers, odspoilers, .func (PySem.W.fnOf "spoilers" "spoilers" (defArgs sspoilers) (defBody sspoilers) (defScope sspoilers) .none kVspoilers dcspoilers pmspoilers anspoilers cdspoilers ctspoilers), slspoilers⟩) (c_spoilers : PySem.W.codeIn K cdspoilers "spoilers" = true) (k_spoilers : PySem.W.keepIn K (.ref aspoilers) = true)
    (a_first_spoilers : PySem.W.nsIn K mainGlobals "first_spoilers" = some (some (.ref afirst_spoilers))) (l_first_spoilers : K.lookup afirst_spoilers = some ⟨ocfirst_spoilers, odfirst_spoilers, .func (PySem.W.fnOf "first_spoilers" "first_spoilers" (defArgs sfirst_spoilers) (defBody sfirst_spoilers) (defScope sfirst_spoilers) .none kVfirst_spoilers dcfirst_spoilers pmfirst_spoilers anfirst_spoilers cdfirst_spoilers ctfirst_spoilers), slfirst_spoilers⟩) (c_first_spoilers : PySem.W.codeIn K cdfirst_spoilers "first_spoilers" = true) (k_first_spoilers : PySem.W.keepIn K (.ref afirst_spoilers) = true)
    (a_is_turn : PySem.W.nsIn K mainGlobals "is_turn" = some (some (.ref ais_turn))) (l_is_turn : K.lookup ais_turn = some ⟨ocis_turn, odis_turn, .func (PySem.W.fnOf "is_turn" "is_turn" (defArgs sis_turn) (defBody sis_turn) (defScope sis_turn) .none kVis_turn dcis_turn pmis_turn anis_turn cdis_turn ctis_turn), slis_turn⟩) (c_is_turn : PySem.W.codeIn K cdis_turn "is_turn" = true) (k_is_turn : PySem.W.keepIn K (.ref ais_turn) = true)
    (a__law_begun : PySem.W.nsIn K mainGlobals "_law_begun" = some (some (.ref a_law_begun))) (l__law_begun : K.lookup a_law_begun = some ⟨oc_law_begun, od_law_begun, .func (PySem.W.fnOf "_law_begun" "_law_begun" (defArgs s_law_begun) (defBody s_law_begun) (defScope s_law_begun) .none kV_law_begun dc_law_begun pm_law_begun an_law_begun cd_law_begun ct_law_begun), sl_law_begun⟩) (c__law_begun : PySem.W.codeIn K cd_law_begun "_law_begun" = true) (k__law_begun : PySem.W.keepIn K (.ref a_law_begun) = true)
    (a__law_mixed : PySem.W.nsIn K mainGlobals "_law_mixed" = some (some (.ref a_law_mixed))) (l__law_mixed : K.lookup a_law_mixed = some ⟨oc_law_mixed, od_law_mixed, .func (PySem.W.fnOf "_law_mixed" "_law_mixed" (defArgs s_law_mixed) (defBody s_law_mixed) (defScope s_law_mixed) .none kV_law_mixed dc_law_mixed pm_law_mixed an_law_mixed cd_law_mixed ct_law_mixed), sl_law_mixed⟩) (c__law_mixed : PySem.W.codeIn K cd_law_mixed "_law_mixed" = true) (k__law_mixed : PySem.W.keepIn K (.ref a_law_mixed) = true)
    (a__law_take : PySem.W.nsIn K mainGlobals "_law_take" = some (some (.ref a_law_take))) (l__law_take : K.lookup a_law_take = some ⟨oc_law_take, od_law_take, .func (PySem.W.fnOf "_law_take" "_law_take" (defArgs s_law_take) (defBody s_law_take) (defScope s_law_take) .none kV_law_take dc_law_take pm_law_take an_law_take cd_law_take ct_law_take), sl_law_take⟩) (c__law_take : PySem.W.codeIn K cd_law_take "_law_take" = true) (k__law_take : PySem.W.keepIn K (.ref a_law_take) = true)
    (a__law_pick : PySem.W.nsIn K mainGlobals "_law_pick" = some (some (.ref a_law_pick))) (l__law_pick : K.lookup a_law_pick = some ⟨oc_law_pick, od_law_pick, .func (PySem.W.fnOf "_law_pick" "_law_pick" (defArgs s_law_pick) (defBody s_law_pick) (defScope s_law_pick) .none kV_law_pick dc_law_pick pm_law_pick an_law_pick cd_law_pick ct_law_pick), sl_law_pick⟩) (c__law_pick : PySem.W.codeIn K cd_law_pick "_law_pick" = true) (k__law_pick : PySem.W.keepIn K (.ref a_law_pick) = true)
    (a__law_caught : PySem.W.nsIn K mainGlobals "_law_caught" = some (some (.ref a_law_caught))) (l__law_caught : K.lookup a_law_caught = some ⟨oc_law_caught, od_law_caught, .func (PySem.W.fnOf "_law_caught" "_law_caught" (defArgs s_law_caught) (defBody s_law_caught) (defScope s_law_caught) .none kV_law_caught dc_law_caught pm_law_caught an_law_caught cd_law_caught ct_law_caught), sl_law_caught⟩) (c__law_caught : PySem.W.codeIn K cd_law_caught "_law_caught" = true) (k__law_caught : PySem.W.keepIn K (.ref a_law_caught) = true)
    (a__law_price : PySem.W.nsIn K mainGlobals "_law_price" = some (some (.ref a_law_price))) (l__law_price : K.lookup a_law_price = some ⟨oc_law_price, od_law_price, .func (PySem.W.fnOf "_law_price" "_law_price" (defArgs s_law_price) (defBody s_law_price) (defScope s_law_price) .none kV_law_price dc_law_price pm_law_price an_law_price cd_law_price ct_law_price), sl_law_price⟩) (c__law_price : PySem.W.codeIn K cd_law_price "_law_price" = true) (k__law_price : PySem.W.keepIn K (.ref a_law_price) = true)
    (a__law_bid : PySem.W.nsIn K mainGlobals "_law_bid" = some (some (.ref a_law_bid))) (l__law_bid : K.lookup a_law_bid = some ⟨oc_law_bid, od_law_bid, .func (PySem.W.fnOf "_law_bid" "_law_bid" (defArgs s_law_bid) (defBody s_law_bid) (defScope s_law_bid) .none kV_law_bid dc_law_bid pm_law_bid an_law_bid cd_law_bid ct_law_bid), sl_law_bid⟩) (c__law_bid : PySem.W.codeIn K cd_law_bid "_law_bid" = true) (k__law_bid : PySem.W.keepIn K (.ref a_law_bid) = true)
    (a__law_field : PySem.W.nsIn K mainGlobals "_law_field" = some (some (.ref a_law_field))) (l__law_field : K.lookup a_law_field = some ⟨oc_law_field, od_law_field, .func (PySem.W.fnOf "_law_field" "_law_field" (defArgs s_law_field) (defBody s_law_field) (defScope s_law_field) .none kV_law_field dc_law_field pm_law_field an_law_field cd_law_field ct_law_field), sl_law_field⟩) (c__law_field : PySem.W.codeIn K cd_law_field "_law_field" = true) (k__law_field : PySem.W.keepIn K (.ref a_law_field) = true)
    (a__law_formula : PySem.W.nsIn K mainGlobals "_law_formula" = some (some (.ref a_law_formula))) (l__law_formula : K.lookup a_law_formula = some ⟨oc_law_formula, od_law_formula, .func (PySem.W.fnOf "_law_formula" "_law_formula" (defArgs s_law_formula) (defBody s_law_formula) (defScope s_law_formula) .none kV_law_formula dc_law_formula pm_law_formula an_law_formula cd_law_formula ct_law_formula), sl_law_formula⟩) (c__law_formula : PySem.W.codeIn K cd_law_formula "_law_formula" = true) (k__law_formula : PySem.W.keepIn K (.ref a_law_formula) = true)
    (a__law_bent_bid : PySem.W.nsIn K mainGlobals "_law_bent_bid" = some (some (.ref a_law_bent_bid))) (l__law_bent_bid : K.lookup a_law_bent_bid = some ⟨oc_law_bent_bid, od_law_bent_bid, .func (PySem.W.fnOf "_law_bent_bid" "_law_bent_bid" (defArgs s_law_bent_bid) (defBody s_law_bent_bid) (defScope s_law_bent_bid) .none kV_law_bent_bid dc_law_bent_bid pm_law_bent_bid an_law_bent_bid cd_law_bent_bid ct_law_bent_bid), sl_law_bent_bid⟩) (c__law_bent_bid : PySem.W.codeIn K cd_law_bent_bid "_law_bent_bid" = true) (k__law_bent_bid : PySem.W.keepIn K (.ref a_law_bent_bid) = true)
    (a__law_bent_formula : PySem.W.nsIn K mainGlobals "_law_bent_formula" = some (some (.ref a_law_bent_formula))) (l__law_bent_formula : K.lookup a_law_bent_formula = some ⟨oc_law_bent_formula, od_law_bent_formula, .func (PySem.W.fnOf "_law_bent_formula" "_law_bent_formula" (defArgs s_law_bent_formula) (defBody s_law_bent_formula) (defScope s_law_bent_formula) .none kV_law_bent_formula dc_law_bent_formula pm_law_bent_formula an_law_bent_formula cd_law_bent_formula ct_law_bent_formula), sl_law_bent_formula⟩) (c__law_bent_formula : PySem.W.codeIn K cd_law_bent_formula "_law_bent_formula" = true) (k__law_bent_formula : PySem.W.keepIn K (.ref a_law_bent_formula) = true)
    (a__law_is_kind : PySem.W.nsIn K mainGlobals "_law_is_kind" = some (some (.ref a_law_is_kind))) (l__law_is_kind : K.lookup a_law_is_kind = some ⟨oc_law_is_kind, od_law_is_kind, .func (PySem.W.fnOf "_law_is_kind" "_law_is_kind" (defArgs s_law_is_kind) (defBody s_law_is_kind) (defScope s_law_is_kind) .none kV_law_is_kind dc_law_is_kind pm_law_is_kind an_law_is_kind cd_law_is_kind ct_law_is_kind), sl_law_is_kind⟩) (c__law_is_kind : PySem.W.codeIn K cd_law_is_kind "_law_is_kind" = true) (k__law_is_kind : PySem.W.keepIn K (.ref a_law_is_kind) = true)
    (a__law_refused : PySem.W.nsIn K mainGlobals "_law_refused" = some (some (.ref a_law_refused))) (l__law_refused : K.lookup a_law_refused = some ⟨oc_law_refused, od_law_refused, .func (PySem.W.fnOf "_law_refused" "_law_refused" (defArgs s_law_refused) (defBody s_law_refused) (defScope s_law_refused) .none kV_law_refused dc_law_refused pm_law_refused an_law_refused cd_law_refused ct_law_refused), sl_law_refused⟩) (c__law_refused : PySem.W.codeIn K cd_law_refused "_law_refused" = true) (k__law_refused : PySem.W.keepIn K (.ref a_law_refused) = true)
    (a_law : PySem.W.nsIn K mainGlobals "law" = some (some (.ref alaw))) (l_law : K.lookup alaw = some ⟨oclaw, odlaw, .func (PySem.W.fnOf "law" "law" (defArgs slaw) (defBody slaw) (defScope slaw) .none kVlaw dclaw pmlaw anlaw cdlaw ctlaw), sllaw⟩) (c_law : PySem.W.codeIn K cdlaw "law" = true) (k_law : PySem.W.keepIn K (.ref alaw) = true)
    (z_abs : PySem.W.nsIn K mainGlobals "abs" = some none)
    (z_all : PySem.W.nsIn K mainGlobals "all" = some none)
    (z_bool : PySem.W.nsIn K mainGlobals "bool" = some none)
    (z_int : PySem.W.nsIn K mainGlobals "int" = some none)
    (z_isinstance : PySem.W.nsIn K mainGlobals "isinstance" = some none)
    (z_len : PySem.W.nsIn K mainGlobals "len" = some none)
    (z_list : PySem.W.nsIn K mainGlobals "list" = some none)
    (z_min : PySem.W.nsIn K mainGlobals "min" = some none)
    (z_range : PySem.W.nsIn K mainGlobals "range" = some none)
    (z_repr : PySem.W.nsIn K mainGlobals "repr" = some none)
    (z_str : PySem.W.nsIn K mainGlobals "str" = some none)
    (z_sum : PySem.W.nsIn K mainGlobals "sum" = some none)
    (z_tuple : PySem.W.nsIn K mainGlobals "tuple" = some none)
    {ty_MARK_COUNT : Tok} (y_MARK_COUNT : PySem.W.nsIn K mainGlobals "MARK_COUNT" = some (some (.int 4 ty_MARK_COUNT)))
    {ty_MOST_BIDS : Tok} (y_MOST_BIDS : PySem.W.nsIn K mainGlobals "MOST_BIDS" = some (some (.int 130 ty_MOST_BIDS)))
    {ty_MOST_MARK : Tok} (y_MOST_MARK : PySem.W.nsIn K mainGlobals "MOST_MARK" = some (some (.int 100 ty_MOST_MARK)))
    (y_MOST_PRICE : ∃ u, mg "MOST_PRICE" = some u ∧ RelV (.int 1000000000) u)
    {ty_MOST_TERMS : Tok} (y_MOST_TERMS : PySem.W.nsIn K mainGlobals "MOST_TERMS" = some (some (.int 6 ty_MOST_TERMS)))
    {ty_MOST_WEIGHT : Tok} (y_MOST_WEIGHT : PySem.W.nsIn K mainGlobals "MOST_WEIGHT" = some (some (.int 1000 ty_MOST_WEIGHT)))
    {ay_RELATIVES : Addr} {dy_RELATIVES : Option Addr} {sy_RELATIVES : Array (Option Value)} {my_RELATIVES : Nat} {ty_RELATIVES uy_RELATIVES vy_RELATIVES : Tok} (y_RELATIVES : PySem.W.nsIn K mainGlobals "RELATIVES" = some (some (.ref ay_RELATIVES))) (ly_RELATIVES : K.lookup ay_RELATIVES = some ⟨.type "tuple", dy_RELATIVES, .seq #[.str "low" ty_RELATIVES, .str "range" uy_RELATIVES, .str "mean" vy_RELATIVES] my_RELATIVES, sy_RELATIVES⟩)
    : Txt K mg := by
  exact {
    cTenderError := cTenderError
    g_TenderError := PySem.W.mg_of X G q_TenderError
    x_TenderError := x_TenderError
    k_TenderError := k_TenderError
    b_TenderError := b_TenderError
    t_TenderError := t_TenderError
    i_TenderError := i_TenderError
    e_TenderError := ⟨hg_TenderError, hk_TenderError, b_TenderError, hd_TenderError, ha_TenderError, hn_x, ht_x, hm_TenderError⟩
    cBadField := cBadField
    g_BadField := PySem.W.mg_of X G q_BadField
    x_BadField := x_BadField
    k_BadField := k_BadField
    b_BadField := b_BadField
    t_BadField := t_BadField
    i_BadField := i_BadField
    e_BadField := ⟨hg_BadField, hk_BadField, b_BadField, hd_BadField, ha_BadField, hn_x, ht_x, hm_BadField⟩
    cBadFormula := cBadFormula
    g_BadFormula := PySem.W.mg_of X G q_BadFormula
    x_BadFormula := x_BadFormula
    k_BadFormula := k_BadFormula
    b_BadFormula := b_BadFormula
    t_BadFormula := t_BadFormula
    i_BadFormula := i_BadFormula
    e_BadFormula := ⟨hg_BadFormula, hk_BadFormula, b_BadFormula, hd_BadFormula, ha_BadFormula, hn_x, ht_x, hm_BadFormula⟩
    cBadIndex := cBadIndex
    g_BadIndex := PySem.W.mg_of X G q_BadIndex
    x_BadIndex := x_BadIndex
    k_BadIndex := k_BadIndex
    b_BadIndex := b_BadIndex
    t_BadIndex := t_BadIndex
    i_BadIndex := i_BadIndex
    e_BadIndex := ⟨hg_BadIndex, hk_BadIndex, b_BadIndex, hd_BadIndex, ha_BadIndex, hn_x, ht_x, hm_BadIndex⟩
    su_BadField_TenderError := su_BadField_TenderError
    su_BadFormula_TenderError := su_BadFormula_TenderError
    su_BadIndex_TenderError := su_BadIndex_TenderError
    su_BadField_BadField := su_BadField_BadField
    su_BadField_BadFormula := su_BadField_BadFormula
    su_BadField_BadIndex := su_BadField_BadIndex
    su_BadFormula_BadField := su_BadFormula_BadField
    su_BadFormula_BadFormula := su_BadFormula_BadFormula
    su_BadFormula_BadIndex := su_BadFormula_BadIndex
    su_BadIndex_BadField := su_BadIndex_BadField
    su_BadIndex_BadFormula := su_BadIndex_BadFormula
    su_BadIndex_BadIndex := su_BadIndex_BadIndex
    ais_whole := ais_whole
    dis_whole := _
    Fis_whole := fun_mk (st := sis_whole) l_is_whole c_is_whole k_is_whole
    g_is_whole := PySem.W.mg_of X G a_is_whole
    k_is_whole := k_is_whole
    b_is_whole := (fun_mk (st := sis_whole) l_is_whole c_is_whole k_is_whole).binds (ps := ["thing", "low", "high"]) fun _ _ _ _ _ _ us hl => match us, hl with | [_, _, _], _ => rfl
    ais_bid := ais_bid
    dis_bid := _
    Fis_bid := fun_mk (st := sis_bid) l_is_bid c_is_bid k_is_bid
    g_is_bid := PySem.W.mg_of X G a_is_bid
    k_is_bid := k_is_bid
    b_is_bid := (fun_mk (st := sis_bid) l_is_bid c_is_bid k_is_bid).binds (ps := ["thing"]) fun _ _ _ _ _ _ us hl => match us, hl with | [_], _ => rfl
    bk_is_bid_thing := kb_1 fun s a => .of_eq rfl
    ais_field := ais_field
    dis_field := _
    Fis_field := fun_mk (st := sis_field) l_is_field c_is_field k_is_field
    g_is_field := PySem.W.mg_of X G a_is_field
    k_is_field := k_is_field
    b_is_field := (fun_mk (st := sis_field) l_is_field c_is_field k_is_field).binds (ps := ["thing"]) fun _ _ _ _ _ _ us hl => match us, hl with | [_], _ => rfl
    bk_is_field_thing := kb_1 fun s a => .of_eq rfl
    aneed_field := aneed_field
    dneed_field := _
    Fneed_field := fun_mk (st := sneed_field) l_need_field c_need_field k_need_field
    g_need_field := PySem.W.mg_of X G a_need_field
    k_need_field := k_need_field
    b_need_field := (fun_mk (st := sneed_field) l_need_field c_need_field k_need_field).binds (ps := ["field"]) fun _ _ _ _ _ _ us hl => match us, hl with | [_], _ => rfl
    aneed_index := aneed_index
    dneed_index := _
    Fneed_index := fun_mk (st := sneed_index) l_need_index c_need_index k_need_index
    g_need_index := PySem.W.mg_of X G a_need_index
    k_need_index := k_need_index
    b_need_index := (fun_mk (st := sneed_index) l_need_index c_need_index k_need_index).binds (ps := ["field", "index"]) fun _ _ _ _ _ _ us hl => match us, hl with | [_, _], _ => rfl
    ais_term := ais_term
    dis_term := _
    Fis_term := fun_mk (st := sis_term) l_is_term c_is_term k_is_term
    g_is_term := PySem.W.mg_of X G a_is_term
    k_is_term := k_is_term
    b_is_term := (fun_mk (st := sis_term) l_is_term c_is_term k_is_term).binds (ps := ["thing"]) fun _ _ _ _ _ _ us hl => match us, hl with | [_], _ => rfl
    ais_formula := ais_formula
    dis_formula := _
    Fis_formula := fun_mk (st := sis_formula) l_is_formula c_is_formula k_is_formula
    g_is_formula := PySem.W.mg_of X G a_is_formula
    k_is_formula := k_is_formula
    b_is_formula := (fun_mk (st := sis_formula) l_is_formula c_is_formula k_is_formula).binds (ps := ["thing"]) fun _ _ _ _ _ _ us hl => match us, hl with | [_], _ => rfl
    bk_is_formula_thing := kb_1 fun s a => .of_eq rfl
    aneed_formula := aneed_formula
    dneed_formula := _
    Fneed_formula := fun_mk (st := sneed_formula) l_need_formula c_need_formula k_need_formula
    g_need_formula := PySem.W.mg_of X G a_need_formula
    k_need_formula := k_need_formula
    b_need_formula := (fun_mk (st := sneed_formula) l_need_formula c_need_formula k_need_formula).binds (ps := ["formula"]) fun _ _ _ _ _ _ us hl => match us, hl with | [_], _ => rfl
    amark_weights := amark_weights
    dmark_weights := _
    Fmark_weights := fun_mk (st := smark_weights) l_mark_weights c_mark_weights k_mark_weights
    g_mark_weights := PySem.W.mg_of X G a_mark_weights
    k_mark_weights := k_mark_weights
    b_mark_weights := (fun_mk (st := smark_weights) l_mark_weights c_mark_weights k_mark_weights).binds (ps := ["formula"]) fun _ _ _ _ _ _ us hl => match us, hl with | [_], _ => rfl
    bk_mark_weights_formula := kb_1 fun s a => .of_eq rfl
    arelative_weights := arelative_weights
    drelative_weights := _
    Frelative_weights := fun_mk (st := srelative_weights) l_relative_weights c_relative_weights k_relative_weights
    g_relative_weights := PySem.W.mg_of X G a_relative_weights
    k_relative_weights := k_relative_weights
    b_relative_weights := (fun_mk (st := srelative_weights) l_relative_weights c_relative_weights k_relative_weights).binds (ps := ["formula"]) fun _ _ _ _ _ _ us hl => match us, hl with | [_], _ => rfl
    bk_relative_weights_formula := kb_1 fun s a => .of_eq rfl
    aleast_mark_sum := aleast_mark_sum
    dleast_mark_sum := _
    Fleast_mark_sum := fun_mk (st := sleast_mark_sum) l_least_mark_sum c_least_mark_sum k_least_mark_sum
    g_least_mark_sum := PySem.W.mg_of X G a_least_mark_sum
    k_least_mark_sum := k_least_mark_sum
    b_least_mark_sum := (fun_mk (st := sleast_mark_sum) l_least_mark_sum c_least_mark_sum k_least_mark_sum).binds (ps := ["formula"]) fun _ _ _ _ _ _ us hl => match us, hl with | [_], _ => rfl
    apasses := apasses
    dpasses := _
    Fpasses := fun_mk (st := spasses) l_passes c_passes k_passes
    g_passes := PySem.W.mg_of X G a_passes
    k_passes := k_passes
    b_passes := (fun_mk (st := spasses) l_passes c_passes k_passes).binds (ps := ["formula"]) fun _ _ _ _ _ _ us hl => match us, hl with | [_], _ => rfl
    aturn := aturn
    dturn := _
    Fturn := fun_mk (st := sturn) l_turn c_turn k_turn
    g_turn := PySem.W.mg_of X G a_turn
    k_turn := k_turn
    b_turn := (fun_mk (st := sturn) l_turn c_turn k_turn).binds (ps := ["formula"]) fun _ _ _ _ _ _ us hl => match us, hl with | [_], _ => rfl
    ascore := ascore
    dscore := _
    Fscore := fun_mk (st := sscore) l_score c_score k_score
    g_score := PySem.W.mg_of X G a_score
    k_score := k_score
    b_score := (fun_mk (st := sscore) l_score c_score k_score).binds (ps := ["formula", "field", "index"]) fun _ _ _ _ _ _ us hl => match us, hl with | [_, _, _], _ => rfl
    ascores := ascores
    dscores := _
    Fscores := fun_mk (st := sscores) l_scores c_scores k_scores
    g_scores := PySem.W.mg_of X G a_scores
    k_scores := k_scores
    b_scores := (fun_mk (st := sscores) l_scores c_scores k_scores).binds (ps := ["formula", "field"]) fun _ _ _ _ _ _ us hl => match us, hl with | [_, _], _ => rfl
    aranking := aranking
    dranking := _
    Franking := fun_mk (st := sranking) l_ranking c_ranking k_ranking
    g_ranking := PySem.W.mg_of X G a_ranking
    k_ranking := k_ranking
    b_ranking := (fun_mk (st := sranking) l_ranking c_ranking k_ranking).binds (ps := ["formula", "field"]) fun _ _ _ _ _ _ us hl => match us, hl with | [_, _], _ => rfl
    aahead := aahead
    dahead := _
    Fahead := fun_mk (st := sahead) l_ahead c_ahead k_ahead
    g_ahead := PySem.W.mg_of X G a_ahead
    k_ahead := k_ahead
    b_ahead := (fun_mk (st := sahead) l_ahead c_ahead k_ahead).binds (ps := ["formula", "field", "first", "second"]) fun _ _ _ _ _ _ us hl => match us, hl with | [_, _, _, _], _ => rfl
    aspoilers := aspoilers
    dspoilers := _
    Fspoilers := fun_mk (st := sspoilers) l_spoilers c_spoilers k_spoilers
    g_spoilers := PySem.W.mg_of X G a_spoilers
    k_spoilers := k_spoilers
    b_spoilers := (fun_mk (st := sspoilers) l_spoilers c_spoilers k_spoilers).binds (ps := ["formula", "field"]) fun _ _ _ _ _ _ us hl => match us, hl with | [_, _], _ => rfl
    afirst_spoilers := afirst_spoilers
    dfirst_spoilers := _
    Ffirst_spoilers := fun_mk (st := sfirst_spoilers) l_first_spoilers c_first_spoilers k_first_spoilers
    g_first_spoilers := PySem.W.mg_of X G a_first_spoilers
    k_first_spoilers := k_first_spoilers
    b_first_spoilers := (fun_mk (st := sfirst_spoilers) l_first_spoilers c_first_spoilers k_first_spoilers).binds (ps := ["formula", "field"]) fun _ _ _ _ _ _ us hl => match us, hl with | [_, _], _ => rfl
    ais_turn := ais_turn
    dis_turn := _
    Fis_turn := fun_mk (st := sis_turn) l_is_turn c_is_turn k_is_turn
    g_is_turn := PySem.W.mg_of X G a_is_turn
    k_is_turn := k_is_turn
    b_is_turn := (fun_mk (st := sis_turn) l_is_turn c_is_turn k_is_turn).binds (ps := ["formula", "thing"]) fun _ _ _ _ _ _ us hl => match us, hl with | [_, _], _ => rfl
    a_law_begun := a_law_begun
    d_law_begun := _
    F_law_begun := fun_mk (st := s_law_begun) l__law_begun c__law_begun k__law_begun
    g__law_begun := PySem.W.mg_of X G a__law_begun
    k__law_begun := k__law_begun
    b__law_begun := (fun_mk (st := s_law_begun) l__law_begun c__law_begun k__law_begun).binds (ps := ["script"]) fun _ _ _ _ _ _ us hl => match us, hl with | [_], _ => rfl
    a_law_mixed := a_law_mixed
    d_law_mixed := _
    F_law_mixed := fun_mk (st := s_law_mixed) l__law_mixed c__law_mixed k__law_mixed
    g__law_mixed := PySem.W.mg_of X G a__law_mixed
    k__law_mixed := k__law_mixed
    b__law_mixed := (fun_mk (st := s_law_mixed) l__law_mixed c__law_mixed k__law_mixed).binds (ps := ["draw"]) fun _ _ _ _ _ _ us hl => match us, hl with | [_], _ => rfl
    a_law_take := a_law_take
    d_law_take := _
    F_law_take := fun_mk (st := s_law_take) l__law_take c__law_take k__law_take
    g__law_take := PySem.W.mg_of X G a__law_take
    k__law_take := k__law_take
    b__law_take := (fun_mk (st := s_law_take) l__law_take c__law_take k__law_take).binds (ps := ["draw", "many"]) fun _ _ _ _ _ _ us hl => match us, hl with | [_, _], _ => rfl
    a_law_pick := a_law_pick
    d_law_pick := _
    F_law_pick := fun_mk (st := s_law_pick) l__law_pick c__law_pick k__law_pick
    g__law_pick := PySem.W.mg_of X G a__law_pick
    k__law_pick := k__law_pick
    b__law_pick := (fun_mk (st := s_law_pick) l__law_pick c__law_pick k__law_pick).binds (ps := ["draw", "some"]) fun _ _ _ _ _ _ us hl => match us, hl with | [_, _], _ => rfl
    a_law_caught := a_law_caught
    d_law_caught := _
    F_law_caught := fun_mk (st := s_law_caught) l__law_caught c__law_caught k__law_caught
    g__law_caught := PySem.W.mg_of X G a__law_caught
    k__law_caught := k__law_caught
    b__law_caught := (fun_mk (st := s_law_caught) l__law_caught c__law_caught k__law_caught).binds (ps := ["work"]) fun _ _ _ _ _ _ us hl => match us, hl with | [_], _ => rfl
    a_law_price := a_law_price
    d_law_price := _
    F_law_price := fun_mk (st := s_law_price) l__law_price c__law_price k__law_price
    g__law_price := PySem.W.mg_of X G a__law_price
    k__law_price := k__law_price
    b__law_price := (fun_mk (st := s_law_price) l__law_price c__law_price k__law_price).binds (ps := ["draw"]) fun _ _ _ _ _ _ us hl => match us, hl with | [_], _ => rfl
    a_law_bid := a_law_bid
    d_law_bid := _
    F_law_bid := fun_mk (st := s_law_bid) l__law_bid c__law_bid k__law_bid
    g__law_bid := PySem.W.mg_of X G a__law_bid
    k__law_bid := k__law_bid
    b__law_bid := (fun_mk (st := s_law_bid) l__law_bid c__law_bid k__law_bid).binds (ps := ["draw"]) fun _ _ _ _ _ _ us hl => match us, hl with | [_], _ => rfl
    a_law_field := a_law_field
    d_law_field := _
    F_law_field := fun_mk (st := s_law_field) l__law_field c__law_field k__law_field
    g__law_field := PySem.W.mg_of X G a__law_field
    k__law_field := k__law_field
    b__law_field := (fun_mk (st := s_law_field) l__law_field c__law_field k__law_field).binds (ps := ["draw", "many"]) fun _ _ _ _ _ _ us hl => match us, hl with | [_, _], _ => rfl
    a_law_formula := a_law_formula
    d_law_formula := _
    F_law_formula := fun_mk (st := s_law_formula) l__law_formula c__law_formula k__law_formula
    g__law_formula := PySem.W.mg_of X G a__law_formula
    k__law_formula := k__law_formula
    b__law_formula := (fun_mk (st := s_law_formula) l__law_formula c__law_formula k__law_formula).binds (ps := ["draw"]) fun _ _ _ _ _ _ us hl => match us, hl with | [_], _ => rfl
    a_law_bent_bid := a_law_bent_bid
    d_law_bent_bid := _
    F_law_bent_bid := fun_mk (st := s_law_bent_bid) l__law_bent_bid c__law_bent_bid k__law_bent_bid
    g__law_bent_bid := PySem.W.mg_of X G a__law_bent_bid
    k__law_bent_bid := k__law_bent_bid
    b__law_bent_bid := (fun_mk (st := s_law_bent_bid) l__law_bent_bid c__law_bent_bid k__law_bent_bid).binds (ps := ["draw", "bid"]) fun _ _ _ _ _ _ us hl => match us, hl with | [_, _], _ => rfl
    a_law_bent_formula := a_law_bent_formula
    d_law_bent_formula := _
    F_law_bent_formula := fun_mk (st := s_law_bent_formula) l__law_bent_formula c__law_bent_formula k__law_bent_formula
    g__law_bent_formula := PySem.W.mg_of X G a__law_bent_formula
    k__law_bent_formula := k__law_bent_formula
    b__law_bent_formula := (fun_mk (st := s_law_bent_formula) l__law_bent_formula c__law_bent_formula k__law_bent_formula).binds (ps := ["draw", "formula"]) fun _ _ _ _ _ _ us hl => match us, hl with | [_, _], _ => rfl
    a_law_is_kind := a_law_is_kind
    d_law_is_kind := _
    F_law_is_kind := fun_mk (st := s_law_is_kind) l__law_is_kind c__law_is_kind k__law_is_kind
    g__law_is_kind := PySem.W.mg_of X G a__law_is_kind
    k__law_is_kind := k__law_is_kind
    b__law_is_kind := (fun_mk (st := s_law_is_kind) l__law_is_kind c__law_is_kind k__law_is_kind).binds (ps := ["caught", "kind"]) fun _ _ _ _ _ _ us hl => match us, hl with | [_, _], _ => rfl
    a_law_refused := a_law_refused
    d_law_refused := _
    F_law_refused := fun_mk (st := s_law_refused) l__law_refused c__law_refused k__law_refused
    g__law_refused := PySem.W.mg_of X G a__law_refused
    k__law_refused := k__law_refused
    b__law_refused := (fun_mk (st := s_law_refused) l__law_refused c__law_refused k__law_refused).binds (ps := ["draw", "formula", "field"]) fun _ _ _ _ _ _ us hl => match us, hl with | [_, _, _], _ => rfl
    alaw := alaw
    dlaw := _
    Flaw := fun_mk (st := slaw) l_law c_law k_law
    g_law := PySem.W.mg_of X G a_law
    k_law := k_law
    b_law := (fun_mk (st := slaw) l_law c_law k_law).binds (ps := ["script"]) fun _ _ _ _ _ _ us hl => match us, hl with | [_], _ => rfl
    n_abs := PySem.W.mg_none_of X G z_abs
    n_all := PySem.W.mg_none_of X G z_all
    n_bool := PySem.W.mg_none_of X G z_bool
    n_int := PySem.W.mg_none_of X G z_int
    n_isinstance := PySem.W.mg_none_of X G z_isinstance
    n_len := PySem.W.mg_none_of X G z_len
    n_list := PySem.W.mg_none_of X G z_list
    n_min := PySem.W.mg_none_of X G z_min
    n_range := PySem.W.mg_none_of X G z_range
    n_repr := PySem.W.mg_none_of X G z_repr
    n_str := PySem.W.mg_none_of X G z_str
    n_sum := PySem.W.mg_none_of X G z_sum
    n_tuple := PySem.W.mg_none_of X G z_tuple
    c_MARK_COUNT := ⟨_, PySem.W.mg_of X G y_MARK_COUNT, _, rfl⟩
    c_MOST_BIDS := ⟨_, PySem.W.mg_of X G y_MOST_BIDS, _, rfl⟩
    c_MOST_MARK := ⟨_, PySem.W.mg_of X G y_MOST_MARK, _, rfl⟩
    c_MOST_PRICE := y_MOST_PRICE
    c_MOST_TERMS := ⟨_, PySem.W.mg_of X G y_MOST_TERMS, _, rfl⟩
    c_MOST_WEIGHT := ⟨_, PySem.W.mg_of X G y_MOST_WEIGHT, _, rfl⟩
    aRELATIVES := ay_RELATIVES
    c_RELATIVES := ⟨_, PySem.W.mg_of X G y_RELATIVES, rfl⟩
    e_RELATIVES := fun H => .tup (.inr ⟨_, _, _, ly_RELATIVES, rfl, rfl, (show 3 ≤ sizeLine by decide), .cons (show RelV (.str "low") _ from ⟨_, rfl⟩) (.cons (show RelV (.str "range") _ from ⟨_, rfl⟩) (.cons (show RelV (.str "mean") _ from ⟨_, rfl⟩) .nil))⟩) (.cons (.str _) (.cons (.str _) (.cons (.str _) .nil)))
  }
theorem most_price {q : Program} {lv : List (Str × PySem.W.WData)} {mg : Str → Option Value} {h : Heap} (X : PySem.W.XL q lv mg h) (hm : ((("MOST_PRICE" : Str), PySem.W.WData.int 1000000000) : Str × PySem.W.WData) ∈ lv) : ∃ u, mg "MOST_PRICE" = some u ∧ RelV (.int 1000000000) u := by
  obtain ⟨v, e, r⟩ := X.2.val _ hm
  refine ⟨v, e, ?_⟩
  cases r with
  | int i t => exact ⟨t, rfl⟩
theorem law_end {P : Program} {w : World} {K : PySem.W.Frag} {mg : Str → Option Value} {fa : Addr} (T : Txt K mg) (hm : mg "law" = some (.ref fa)) :
    ∃ (fy : Addr) (fd fdy : FuncData), (∀ (s : Shared) (u : Value), BindsTo s fd ⟨[u], []⟩ [("script", u)]) ∧ LawAtU P w K mg "law" slaw fa fd 18 63 "script" "_law_refused" fy fdy := by
  have e := T.g_law.symm.trans hm
  cases e
  refine ⟨T.a_law_refused, T.dlaw, T.d_law_refused, fun s u => ?_, law_ok T⟩
  obtain ⟨oc, od, kV, doc, pm, an, cdv, ct, osl, e, _, _⟩ := T.Flaw.ex
  rw [e]
  exact .of_eq rfl
end Sc

open PySem PySem.W PyProof.Rows in
set_option maxRecDepth 100000 in
set_option maxHeartbeats 0 in
theorem PySem.Challenge.cw_protestproof_k68_bids_fields_and_formula_holds : PySem.Challenge.rw_protestproof_k68_bids_fields_and_formula.Holds := by
  w_on; o_law; k_head; (case hw => w_witness2)
  k_fill
  refine Fw.walk_atU (l := PySem.Challenge.rw_protestproof_k68_bids_fields_and_formula) (n := 63) (k := 18) (st := Sc.slaw) (p := "script") (y := "_law_refused") rfl (by decide) rfl ⟨rfl, by decide, by decide⟩ ?REC ?NT (fun w h Y => PySem.W.km_in_of Y) ?F
  case REC => first | rfl | decide +kernel
  case NT =>
    intro w
    first | kernel_rfl | rfl | decide +kernel
  case F =>
    intro w mg fa h KX G X hmg
    have mp := Sc.most_price X (by simp)
    refine' Sc.law_end (Sc.txt_mk KX G ?q_TenderError ?x_TenderError ?k_TenderError ?b_TenderError ?t_TenderError ?i_TenderError ?hg_TenderError ?hk_TenderError ?hd_TenderError ?ha_TenderError ?hm_TenderError ?q_BadField ?x_BadField ?k_BadField ?b_BadField ?t_BadField ?i_BadField ?hg_BadField ?hk_BadField ?hd_BadField ?ha_BadField ?hm_BadField ?q_BadFormula ?x_BadFormula ?k_BadFormula ?b_BadFormula ?t_BadFormula ?i_BadFormula ?hg_BadFormula ?hk_BadFormula ?hd_BadFormula ?ha_BadFormula ?hm_BadFormula ?q_BadIndex ?x_BadIndex ?k_BadIndex ?b_BadIndex ?t_BadIndex ?i_BadIndex ?hg_BadIndex ?hk_BadIndex ?hd_BadIndex ?ha_BadIndex ?hm_BadIndex ?hn_x ?ht_x ?su_BadField_TenderError ?su_BadFormula_TenderError ?su_BadIndex_TenderError ?su_BadField_BadField ?su_BadField_BadFormula ?su_BadField_BadIndex ?su_BadFormula_BadField ?su_BadFormula_BadFormula ?su_BadFormula_BadIndex ?su_BadIndex_BadField ?su_BadIndex_BadFormula ?su_BadIndex_BadIndex ?a_is_whole ?l_is_whole ?c_is_whole ?k_is_whole ?a_is_bid ?l_is_bid ?c_is_bid ?k_is_bid ?a_is_field ?l_is_field ?c_is_field ?k_is_field ?a_need_field ?l_need_field ?c_need_field ?k_need_field ?a_need_index ?l_need_index ?c_need_index ?k_need_index ?a_is_term ?l_is_term ?c_is_term ?k_is_term ?a_is_formula ?l_is_formula ?c_is_formula ?k_is_formula ?a_need_formula ?l_need_formula ?c_need_formula ?k_need_formula ?a_mark_weights ?l_mark_weights ?c_mark_weights ?k_mark_weights ?a_relative_weights ?l_relative_weights ?c_relative_weights ?k_relative_weights ?a_least_mark_sum ?l_least_mark_sum ?c_least_mark_sum ?k_least_mark_sum ?a_passes ?l_passes ?c_passes ?k_passes ?a_turn ?l_turn ?c_turn ?k_turn ?a_score ?l_score ?c_score ?k_score ?a_scores ?l_scores ?c_scores ?k_scores ?a_ranking ?l_ranking ?c_ranking ?k_ranking ?a_ahead ?l_ahead ?c_ahead ?k_ahead ?a_spoilers ?l_spoilers ?c_spoilers ?k_spoilers ?a_first_spoilers ?l_first_spoilers ?c_first_spoilers ?k_first_spoilers ?a_is_turn ?l_is_turn ?c_is_turn ?k_is_turn ?a__law_begun ?l__law_begun ?c__law_begun ?k__law_begun ?a__law_mixed ?l__law_mixed ?c__law_mixed ?k__law_mixed ?a__law_take ?l__law_take ?c__law_take ?k__law_take ?a__law_pick ?l__law_pick ?c__law_pick ?k__law_pick ?a__law_caught ?l__law_caught ?c__law_caught ?k__law_caught ?a__law_price ?l__law_price ?c__law_price ?k__law_price ?a__law_bid ?l__law_bid ?c__law_bid ?k__law_bid ?a__law_field ?l__law_field ?c__law_field ?k__law_field ?a__law_formula ?l__law_formula ?c__law_formula ?k__law_formula ?a__law_bent_bid ?l__law_bent_bid ?c__law_bent_bid ?k__law_bent_bid ?a__law_bent_formula ?l__law_bent_formula ?c__law_bent_formula ?k__law_bent_formula ?a__law_is_kind ?l__law_is_kind ?c__law_is_kind ?k__law_is_kind ?a__law_refused ?l__law_refused ?c__law_refused ?k__law_refused ?a_law ?l_law ?c_law ?k_law ?z_abs ?z_all ?z_bool ?z_int ?z_isinstance ?z_len ?z_list ?z_min ?z_range ?z_repr ?z_str ?z_sum ?z_tuple ?y_MARK_COUNT ?y_MOST_BIDS ?y_MOST_MARK mp ?y_MOST_TERMS ?y_MOST_WEIGHT ?y_RELATIVES ?ly_RELATIVES) hmg
    (case q_TenderError => k_is)
    (case x_TenderError => k_exc)
    (case k_TenderError => k_is)
    (case b_TenderError => k_is)
    (case t_TenderError => k_is)
    (case i_TenderError => k_is)
    (case hg_TenderError => k_is)
    (case hk_TenderError => k_is)
    (case hd_TenderError => k_is)
    (case ha_TenderError => k_is)
    (case hm_TenderError => k_is)
    (case q_BadField => k_is)
    (case x_BadField => k_exc)
    (case k_BadField => k_is)
    (case b_BadField => k_is)
    (case t_BadField => k_is)
    (case i_BadField => k_is)
    (case hg_BadField => k_is)
    (case hk_BadField => k_is)
    (case hd_BadField => k_is)
    (case ha_BadField => k_is)
    (case hm_BadField => k_is)
    (case q_BadFormula => k_is)
    (case x_BadFormula => k_exc)
    (case k_BadFormula => k_is)
    (case b_BadFormula => k_is)
    (case t_BadFormula => k_is)
    (case i_BadFormula => k_is)
    (case hg_BadFormula => k_is)
    (case hk_BadFormula => k_is)
    (case hd_BadFormula => k_is)
    (case ha_BadFormula => k_is)
    (case hm_BadFormula => k_is)
    (case q_BadIndex => k_is)
    (case x_BadIndex => k_exc)
    (case k_BadIndex => k_is)
    (case b_BadIndex => k_is)
    (case t_BadIndex => k_is)
    (case i_BadIndex => k_is)
    (case hg_BadIndex => k_is)
    (case hk_BadIndex => k_is)
    (case hd_BadIndex => k_is)
    (case ha_BadIndex => k_is)
    (case hm_BadIndex => k_is)
    (case hn_x => k_is)
    (case ht_x => k_is)
    (case su_BadField_TenderError => first | k_is | rfl)
    (case su_BadFormula_TenderError => first | k_is | rfl)
    (case su_BadIndex_TenderError => first | k_is | rfl)
    (case su_BadField_BadField => first | k_is | rfl)
    (case su_BadField_BadFormula => first | k_is | rfl)
    (case su_BadField_BadIndex => first | k_is | rfl)
    (case su_BadFormula_BadField => first | k_is | rfl)
    (case su_BadFormula_BadFormula => first | k_is | rfl)
    (case su_BadFormula_BadIndex => first | k_is | rfl)
    (case su_BadIndex_BadField => first | k_is | rfl)
    (case su_BadIndex_BadFormula => first | k_is | rfl)
    (case su_BadIndex_BadIndex => first | k_is | rfl)
    (case a_is_whole => k_is)
    (case l_is_whole => k_is)
    (case c_is_whole => k_is)
    (case k_is_whole => k_is)
    (case a_is_bid => k_is)
    (case l_is_bid => k_is)
    (case c_is_bid => k_is)
    (case k_is_bid => k_is)
    (case a_is_field => k_is)
    (case l_is_field => k_is)
    (case c_is_field => k_is)
    (case k_is_field => k_is)
    (case a_need_field => k_is)
    (case l_need_field => k_is)
    (case c_need_field => k_is)
    (case k_need_field => k_is)
    (case a_need_index => k_is)
    (case l_need_index => k_is)
    (case c_need_index => k_is)
    (case k_need_index => k_is)
    (case a_is_term => k_is)
    (case l_is_term => k_is)
    (case c_is_term => k_is)
    (case k_is_term => k_is)
    (case a_is_formula => k_is)
    (case l_is_formula => k_is)
    (case c_is_formula => k_is)
    (case k_is_formula => k_is)
    (case a_need_formula => k_is)
    (case l_need_formula => k_is)
    (case c_need_formula => k_is)
    (case k_need_formula => k_is)
    (case a_mark_weights => k_is)
    (case l_mark_weights => k_is)
    (case c_mark_weights => k_is)
    (case k_mark_weights => k_is)
    (case a_relative_weights => k_is)
    (case l_relative_weights => k_is)
    (case c_relative_weights => k_is)
    (case k_relative_weights => k_is)
    (case a_least_mark_sum => k_is)
    (case l_least_mark_sum => k_is)
    (case c_least_mark_sum => k_is)
    (case k_least_mark_sum => k_is)
    (case a_passes => k_is)
    (case l_passes => k_is)
    (case c_passes => k_is)
    (case k_passes => k_is)
    (case a_turn => k_is)
    (case l_turn => k_is)
    (case c_turn => k_is)
    (case k_turn => k_is)
    (case a_score => k_is)
    (case l_score => k_is)
    (case c_score => k_is)
    (case k_score => k_is)
    (case a_scores => k_is)
    (case l_scores => k_is)
    (case c_scores => k_is)
    (case k_scores => k_is)
    (case a_ranking => k_is)
    (case l_ranking => k_is)
    (case c_ranking => k_is)
    (case k_ranking => k_is)
    (case a_ahead => k_is)
    (case l_ahead => k_is)
    (case c_ahead => k_is)
    (case k_ahead => k_is)
    (case a_spoilers => k_is)
    (case l_spoilers => k_is)
    (case c_spoilers => k_is)
    (case k_spoilers => k_is)
    (case a_first_spoilers => k_is)
    (case l_first_spoilers => k_is)
    (case c_first_spoilers => k_is)
    (case k_first_spoilers => k_is)
    (case a_is_turn => k_is)
    (case l_is_turn => k_is)
    (case c_is_turn => k_is)
    (case k_is_turn => k_is)
    (case a__law_begun => k_is)
    (case l__law_begun => k_is)
    (case c__law_begun => k_is)
    (case k__law_begun => k_is)
    (case a__law_mixed => k_is)
    (case l__law_mixed => k_is)
    (case c__law_mixed => k_is)
    (case k__law_mixed => k_is)
    (case a__law_take => k_is)
    (case l__law_take => k_is)
    (case c__law_take => k_is)
    (case k__law_take => k_is)
    (case a__law_pick => k_is)
    (case l__law_pick => k_is)
    (case c__law_pick => k_is)
    (case k__law_pick => k_is)
    (case a__law_caught => k_is)
    (case l__law_caught => k_is)
    (case c__law_caught => k_is)
    (case k__law_caught => k_is)
    (case a__law_price => k_is)
    (case l__law_price => k_is)
    (case c__law_price => k_is)
    (case k__law_price => k_is)
    (case a__law_bid => k_is)
    (case l__law_bid => k_is)
    (case c__law_bid => k_is)
    (case k__law_bid => k_is)
    (case a__law_field => k_is)
    (case l__law_field => k_is)
    (case c__law_field => k_is)
    (case k__law_field => k_is)
    (case a__law_formula => k_is)
    (case l__law_formula => k_is)
    (case c__law_formula => k_is)
    (case k__law_formula => k_is)
    (case a__law_bent_bid => k_is)
    (case l__law_bent_bid => k_is)
    (case c__law_bent_bid => k_is)
    (case k__law_bent_bid => k_is)
    (case a__law_bent_formula => k_is)
    (case l__law_bent_formula => k_is)
    (case c__law_bent_formula => k_is)
    (case k__law_bent_formula => k_is)
    (case a__law_is_kind => k_is)
    (case l__law_is_kind => k_is)
    (case c__law_is_kind => k_is)
    (case k__law_is_kind => k_is)
    (case a__law_refused => k_is)
    (case l__law_refused => k_is)
    (case c__law_refused => k_is)
    (case k__law_refused => k_is)
    (case a_law => k_is)
    (case l_law => k_is)
    (case c_law => k_is)
    (case k_law => k_is)
    (case z_abs => k_is)
    (case z_all => k_is)
    (case z_bool => k_is)
    (case z_int => k_is)
    (case z_isinstance => k_is)
    (case z_len => k_is)
    (case z_list => k_is)
    (case z_min => k_is)
    (case z_range => k_is)
    (case z_repr => k_is)
    (case z_str => k_is)
    (case z_sum => k_is)
    (case z_tuple => k_is)
    (case y_MARK_COUNT => k_is)
    (case y_MOST_BIDS => k_is)
    (case y_MOST_MARK => k_is)
    (case y_MOST_TERMS => k_is)
    (case y_MOST_WEIGHT => k_is)
    (case y_RELATIVES => k_is)
    (case ly_RELATIVES => k_is)
#print axioms PySem.Challenge.cw_protestproof_k68_bids_fields_and_formula_holds

