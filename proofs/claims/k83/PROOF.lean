import PyProof.Rows.All
import Wide.All
import OpenK.AllK
import Wide.FinOn
import HandS.ForMost
import HandS.ForExc
import HandS.Evl
import HandS.IsInst
import HandS.TupAny
import HandS.FStr
import HandS.Zip
import HandS.TupSets
import HandS.Deep
import HandS.CallSlots
import HandS.ExcInit
import HandS.ExcCtx
import HandS.ExcInitHot
import KE.GoesEnum
import KE.GoesMore
import HandS.NoneIn
import HandS.Comp
import HandS.ExcField
import HandS.Keys
import KE.SortData
import PyProof.ReprRoads
import KE.KUnpackStar
import HandS.Defaults
import HandS.Ends
import HandS.Codes
import PySem.Challenge.RW_waitbolts_k83_locks_written_and_read
set_option Elab.async false
set_option linter.all false
set_option maxRecDepth 100000
set_option maxHeartbeats 2000000
namespace MP
open PySem PySem.Spec PyProof.Rows L2

abbrev D := PyData

/-- a value with its owner: shared data that never changes; a list, a tuple of one's own -/
inductive O where
  | val (d : D)
  | lst (xs : List O)
  | tup (xs : List O)
  deriving Inhabited

mutual
def O.frz : O → D
  | .val d => d
  | .lst xs => .list (frzs xs)
  | .tup xs => .tuple (frzs xs)
def frzs : List O → List D
  | [] => []
  | x :: xs => x.frz :: frzs xs
end

/-- H' has all that H has -/
def Ex (H H' : Hp) : Prop := ∀ a o, H a = some o → H' a = some o
theorem Ex.refl (H : Hp) : Ex H H := fun _ _ h => h
theorem Ex.trans {H H1 H2 : Hp} (a : Ex H H1) (b : Ex H1 H2) : Ex H H2 := fun x o h => b x o (a x o h)
theorem Ex.new {H : Hp} {p : Addr} {o : HO} (h : H p = none) : Ex H (upd H p o) := fun a u e => by
  rw [upd_ne (ne_of_none e h)]; exact e
theorem Ex.both {B H : Hp} {p : Addr} {o : HO} (e : Ex B H) : Ex (upd B p o) (upd H p o) := fun a u q => by
  by_cases h : a = p
  · subst h; rw [upd_same] at q ⊢; exact q
  · rw [upd_ne h] at q ⊢; exact e a u q
theorem Ex.right {B H : Hp} {p : Addr} {o : HO} (e : Ex B H) (h : H p = none) : Ex B (upd H p o) := e.trans (Ex.new h)
theorem Ex.none {H H' : Hp} {p : Addr} (e : Ex H H') (h : H' p = Option.none) : H p = Option.none := by
  cases q : H p with
  | none => rfl
  | some o => rw [e p o q] at h; cases h
theorem Ex.sql {K : PySem.W.Frag} {H H' : Hp} {a : Addr} {xs : List V} (e : Ex H H') (h : SqL K H a xs) : SqL K H' a xs := by
  rcases h with (h | ⟨o, h⟩) | h
  · exact .inl (.inl (e _ _ h))
  · exact .inl (.inr ⟨o, e _ _ h⟩)
  · exact .inr h
theorem Ex.sqt {K : PySem.W.Frag} {H H' : Hp} {a : Addr} {xs : List V} (e : Ex H H') (h : SqT K H a xs) : SqT K H' a xs := by
  rcases h with (h | ⟨o, h⟩) | h
  · exact .inl (.inl (e _ _ h))
  · exact .inl (.inr ⟨o, e _ _ h⟩)
  · exact .inr h

section
variable {K : PySem.W.Frag} {G G' H H' B : Hp}
mutual
theorem dp_mono (e : Ex G G') : ∀ (d : D) (v : V), Dp K G v d → Dp K G' v d
  | .none, _, h => by cases h; exact .non
  | .bool b, _, h => by cases h; exact .bl b
  | .int i, _, h => by cases h; exact .int i
  | .str x, _, h => by cases h; exact .str x
  | .list ds, _, h => by
    cases h with
    | lst hs ha => exact .lst (e.sql hs) (dps_mono e ds _ ha)
  | .tuple ds, _, h => by
    cases h with
    | tup hs ha => exact .tup (e.sqt hs) (dps_mono e ds _ ha)
  | .dict _, _, h => by cases h
theorem dps_mono (e : Ex G G') : ∀ (ds : List D) (vs : List V), DpAll K G vs ds → DpAll K G' vs ds
  | [], _, h => by cases h; exact .nil
  | d :: ds, _, h => by
    cases h with
    | cons h1 h2 => exact .cons (dp_mono e d _ h1) (dps_mono e ds _ h2)
end
theorem Dpm (e : Ex G G') {d : D} {v : V} (h : Dp K G v d) : Dp K G' v d := dp_mono e d v h
theorem Dpms (e : Ex G G') {d : List D} {v : List V} (h : DpAll K G v d) : DpAll K G' v d := dps_mono e d v h
theorem dps_len : ∀ {vs : List V} {ds : List D}, DpAll K G vs ds → vs.length = ds.length
  | _, _, .nil => rfl
  | _, _, .cons _ t => by rw [List.length_cons, List.length_cons, dps_len t]
theorem dps_get : ∀ {vs : List V} {ds : List D} {i : Nat} {d : D}, DpAll K G vs ds → ds[i]? = some d → ∃ v, vs[i]? = some v ∧ Dp K G v d
  | _, _, _, _, .nil, e => by simp at e
  | _, _, 0, _, .cons h t, e => by simp at e; subst e; exact ⟨_, rfl, h⟩
  | _, _, i + 1, _, .cons h t, e => by
    obtain ⟨v, h1, h2⟩ := dps_get (i := i) t (by simpa using e)
    exact ⟨v, by simpa using h1, h2⟩
theorem dps_getv : ∀ {vs : List V} {ds : List D} {i : Nat} {v : V}, DpAll K G vs ds → vs[i]? = some v → ∃ d, ds[i]? = some d ∧ Dp K G v d
  | _, _, _, _, .nil, e => by simp at e
  | _, _, 0, _, .cons h t, e => by simp at e; subst e; exact ⟨_, rfl, h⟩
  | _, _, i + 1, _, .cons h t, e => by
    obtain ⟨v, h1, h2⟩ := dps_getv (i := i) t (by simpa using e)
    exact ⟨v, by simpa using h1, h2⟩
theorem dps_app : ∀ {vs ws : List V} {ds es : List D}, DpAll K G vs ds → DpAll K G ws es → DpAll K G (vs ++ ws) (ds ++ es)
  | _, _, _, _, .nil, h => h
  | _, _, _, _, .cons a t, h => .cons a (dps_app t h)
theorem dps_take : ∀ {vs : List V} {ds : List D} (n : Nat), DpAll K G vs ds → DpAll K G (vs.take n) (ds.take n)
  | _, _, 0, _ => .nil
  | _, _, _ + 1, .nil => .nil
  | _, _, n + 1, .cons a t => .cons a (dps_take n t)
theorem dps_drop : ∀ {vs : List V} {ds : List D} (n : Nat), DpAll K G vs ds → DpAll K G (vs.drop n) (ds.drop n)
  | _, _, 0, h => h
  | _, _, _ + 1, .nil => .nil
  | _, _, n + 1, .cons a t => dps_drop n t
theorem dps_set {v : V} {d : D} (h : Dp K G v d) : ∀ {vs : List V} {ds : List D} (i : Nat), DpAll K G vs ds → DpAll K G (vs.set i v) (ds.set i d)
  | _, _, _, .nil => .nil
  | _, _, 0, .cons _ t => .cons h t
  | _, _, i + 1, .cons a t => .cons a (dps_set h i t)
theorem dps_rev : ∀ {vs : List V} {ds : List D}, DpAll K G vs ds → DpAll K G vs.reverse ds.reverse
  | _, _, .nil => .nil
  | _, _, .cons a t => by rw [List.reverse_cons, List.reverse_cons]; exact dps_app (dps_rev t) (.cons a .nil)

end
mutual
inductive RO (K : PySem.W.Frag) (G H : Hp) : O → V → List Addr → Prop
  | val {d : D} {v : V} : Dp K G v d → RO K G H (.val d) v []
  | lst {a : Addr} {vs : List V} {os : List O} {F : List Addr} : H a = some (.lst vs) → ROs K G H os vs F → RO K G H (.lst os) (.ref a) (a :: F)
  | tup {a : Addr} {vs : List V} {os : List O} {F : List Addr} : H a = some (.tup vs) → ROs K G H os vs F → RO K G H (.tup os) (.ref a) (a :: F)
inductive ROs (K : PySem.W.Frag) (G H : Hp) : List O → List V → List Addr → Prop
  | nil : ROs K G H [] [] []
  | cons {o : O} {v : V} {F F' : List Addr} {os : List O} {vs : List V} : RO K G H o v F → ROs K G H os vs F' → ROs K G H (o :: os) (v :: vs) (F ++ F')
end
section
variable {K : PySem.W.Frag} {G G' H H' B : Hp}
mutual
theorem ro_mono (e : Ex G G') : ∀ (o : O) (v : V) (F : List Addr), (∀ a ∈ F, H' a = H a) → RO K G H o v F → RO K G' H' o v F
  | .val d, _, _, _, h => by cases h with | val h => exact .val (Dpm e h)
  | .lst os, _, _, k, h => by
    cases h with
    | lst h1 h2 => exact .lst ((k _ List.mem_cons_self).trans h1) (ros_mono e os _ _ (fun a ha => k a (List.mem_cons_of_mem _ ha)) h2)
  | .tup os, _, _, k, h => by
    cases h with
    | tup h1 h2 => exact .tup ((k _ List.mem_cons_self).trans h1) (ros_mono e os _ _ (fun a ha => k a (List.mem_cons_of_mem _ ha)) h2)
theorem ros_mono (e : Ex G G') : ∀ (os : List O) (vs : List V) (F : List Addr), (∀ a ∈ F, H' a = H a) → ROs K G H os vs F → ROs K G' H' os vs F
  | [], _, _, _, h => by cases h; exact .nil
  | o :: os, _, _, k, h => by
    cases h with
    | cons h1 h2 => exact .cons (ro_mono e o _ _ (fun a ha => k a (List.mem_append_left _ ha)) h1) (ros_mono e os _ _ (fun a ha => k a (List.mem_append_right _ ha)) h2)
end
mutual
/-- an owned value, let go of -/
theorem ro_frz (e : Ex G B) : ∀ (o : O) (v : V) (F : List Addr), (∀ a ∈ F, B a = H a) → RO K G H o v F → Dp K B v o.frz
  | .val d, _, _, _, h => by cases h with | val h => exact Dpm e h
  | .lst os, _, _, k, h => by
    cases h with
    | lst h1 h2 => exact .lst (.inl (.inl ((k _ List.mem_cons_self).trans h1))) (ros_frz e os _ _ (fun a ha => k a (List.mem_cons_of_mem _ ha)) h2)
  | .tup os, _, _, k, h => by
    cases h with
    | tup h1 h2 => exact .tup (.inl (.inl ((k _ List.mem_cons_self).trans h1))) (ros_frz e os _ _ (fun a ha => k a (List.mem_cons_of_mem _ ha)) h2)
theorem ros_frz (e : Ex G B) : ∀ (os : List O) (vs : List V) (F : List Addr), (∀ a ∈ F, B a = H a) → ROs K G H os vs F → DpAll K B vs (frzs os)
  | [], _, _, _, h => by cases h; exact .nil
  | o :: os, _, _, k, h => by
    cases h with
    | cons h1 h2 => exact .cons (ro_frz e o _ _ (fun a ha => k a (List.mem_append_left _ ha)) h1) (ros_frz e os _ _ (fun a ha => k a (List.mem_append_right _ ha)) h2)
end
theorem ro_val {d : D} {v : V} {F : List Addr} (h : RO K G H (.val d) v F) : F = [] ∧ Dp K G v d := by
  cases h with | val h => exact ⟨rfl, h⟩
theorem ro_lst {os : List O} {v : V} {F : List Addr} (h : RO K G H (.lst os) v F) : ∃ a vs F', v = .ref a ∧ F = a :: F' ∧ H a = some (.lst vs) ∧ ROs K G H os vs F' := by
  cases h with | lst h1 h2 => exact ⟨_, _, _, rfl, rfl, h1, h2⟩
theorem ro_tup {os : List O} {v : V} {F : List Addr} (h : RO K G H (.tup os) v F) : ∃ a vs F', v = .ref a ∧ F = a :: F' ∧ H a = some (.tup vs) ∧ ROs K G H os vs F' := by
  cases h with | tup h1 h2 => exact ⟨_, _, _, rfl, rfl, h1, h2⟩
theorem ros_len : ∀ {os : List O} {vs : List V} {F : List Addr}, ROs K G H os vs F → vs.length = os.length
  | _, _, _, .nil => rfl
  | _, _, _, .cons _ t => by rw [List.length_cons, List.length_cons, ros_len t]
theorem ros_at : ∀ {os : List O} {vs : List V} {F : List Addr} {j : Nat} {d : D}, ROs K G H os vs F → os[j]? = some (.val d) → ∃ v, vs[j]? = some v ∧ Dp K G v d
  | _, _, _, _, _, .nil, e => by simp at e
  | _, _, _, 0, _, .cons h t, e => by simp at e; subst e; exact ⟨_, rfl, (ro_val h).2⟩
  | _, _, _, j + 1, _, .cons h t, e => by
    obtain ⟨v, h1, h2⟩ := ros_at (j := j) t (by simpa using e)
    exact ⟨v, by simpa using h1, h2⟩
theorem ros_app : ∀ {os : List O} {vs : List V} {F : List Addr} {os' : List O} {vs' : List V} {F' : List Addr}, ROs K G H os vs F → ROs K G H os' vs' F' → ROs K G H (os ++ os') (vs ++ vs') (F ++ F')
  | _, _, _, _, _, _, .nil, h => h
  | _, _, _, _, _, _, .cons a t, h => by rw [List.append_assoc]; exact .cons a (ros_app t h)
theorem ros_one {o : O} {v : V} {F : List Addr} (h : RO K G H o v F) : ROs K G H [o] [v] F := by
  have := ROs.cons h (ROs.nil (K := K) (G := G) (H := H)); rwa [List.append_nil] at this
/-- a list of shared things -/
def vals (ds : List D) : List O := ds.map O.val
theorem ros_vals : ∀ {ds : List D} {vs : List V}, DpAll K G vs ds → ROs K G H (vals ds) vs []
  | _, _, .nil => .nil
  | _, _, .cons a t => ROs.cons (F := []) (.val a) (ros_vals t)
theorem frzs_vals : ∀ ds : List D, frzs (vals ds) = ds
  | [] => rfl
  | d :: ds => by show d :: frzs (vals ds) = _; rw [frzs_vals ds]
theorem of_ros_vals : ∀ {ds : List D} {vs : List V} {F : List Addr}, ROs K G H (vals ds) vs F → F = [] ∧ DpAll K G vs ds
  | [], _, _, h => by cases h; exact ⟨rfl, .nil⟩
  | d :: ds, _, _, h => by
    cases h with
    | cons a t =>
      cases a with
      | val a => obtain ⟨rfl, q⟩ := of_ros_vals t; exact ⟨rfl, .cons a q⟩

/-- the heap G, and what H holds at F -/
def put (G H : Hp) (F : List Addr) : Hp := fun a => if a ∈ F then H a else G a
theorem put_in {F : List Addr} {a : Addr} (h : a ∈ F) : put G H F a = H a := if_pos h
theorem put_out {F : List Addr} {a : Addr} (h : a ∉ F) : put G H F a = G a := if_neg h
end

/-- the frame at the entry: what was shared, the heap, what is lent -/
structure Gh where
  G0 : Hp
  H0 : Hp
  F0 : Addr → Prop
  S0 : L2.St
/-- a slot, a temporary -/
inductive Ix where
  | s (i : Nat)
  | t (j : Nat)
  deriving DecidableEq
abbrev Env := List (Option O)
abbrev Tmp := List (O × V)
def att (env : Env) (σ : L2.St) (ts : Tmp) : Ix → Option (O × V)
  | .s i => match env[i]?, σ[i]? with
    | some (some o), some (some v) => some (o, v)
    | _, _ => none
  | .t j => ts[j]?

/-- the state: slots and temporaries, each with its own addresses -/
structure Stt (K : PySem.W.Frag) (g : Gh) (G H : Hp) (env : Env) (σ : L2.St) (ts : Tmp) (fp : Ix → List Addr) : Prop where
  len : σ.length = env.length
  has : ∀ (i : Nat) (o : O), env[i]? = some (some o) → ∃ v : V, σ[i]? = some (some v)
  sub : Ex G H
  rep : ∀ ix o v, att env σ ts ix = some (o, v) → RO K G H o v (fp ix)
  nd : ∀ ix, (fp ix).Nodup
  dj : ∀ ix jx a, a ∈ fp ix → a ∈ fp jx → ix = jx
  ow : ∀ ix a, a ∈ fp ix → G a = none ∧ H a ≠ none ∧ (g.F0 a ∨ g.H0 a = none)
  fr : ∀ b u, g.H0 b = some u → ¬ g.F0 b → H b = some u
  dm : ∀ b, g.H0 b ≠ none → H b ≠ none
  g0 : Ex g.G0 G
  go : ∀ a, G a ≠ none → g.G0 a ≠ none ∨ g.F0 a ∨ g.H0 a = none
  kp : ∀ (j : Nat) (x : Option V), j < 8 → g.S0[j]? = some x → σ[j]? = some x

/-- new things alone -/
structure Grow (G H G' H' : Hp) : Prop where
  gg : Ex G G'
  hh : Ex H H'
  sub : Ex G' H'
  nw : ∀ a, G' a ≠ none → G a ≠ none ∨ H a = none
theorem Grow.refl {G H : Hp} (e : Ex G H) : Grow G H G H := ⟨Ex.refl G, Ex.refl H, e, fun _ h => .inl h⟩
theorem Grow.trans {G H G1 H1 G2 H2 : Hp} (a : Grow G H G1 H1) (b : Grow G1 H1 G2 H2) : Grow G H G2 H2 :=
  ⟨a.gg.trans b.gg, a.hh.trans b.hh, b.sub, fun x h => (b.nw x h).elim (fun h => a.nw x h) fun h => .inr (a.hh.none h)⟩
/-- a new object, shared at once -/
theorem Grow.shared {G H : Hp} {p : Addr} {o : HO} (e : Ex G H) (h : H p = none) : Grow G H (upd G p o) (upd H p o) :=
  ⟨Ex.new (e.none h), Ex.new h, Ex.both e, fun a q => by
    by_cases ha : a = p
    · subst ha; exact .inr h
    · rw [upd_ne ha] at q; exact .inl q⟩
/-- a new object, not shared -/
theorem Grow.own {G H : Hp} {p : Addr} {o : HO} (e : Ex G H) (h : H p = none) : Grow G H G (upd H p o) :=
  ⟨Ex.refl G, Ex.new h, e.right h, fun _ q => .inl q⟩

section
variable {K : PySem.W.Frag} {g : Gh} {G H G' H' : Hp} {env env' : Env} {σ σ' : L2.St} {ts ts' : Tmp} {fp fp' : Ix → List Addr}
theorem Stt.get (S : Stt K g G H env σ ts fp) {i : Nat} {o : O} (h : env[i]? = some (some o)) : ∃ v : V, σ[i]? = some (some v) ∧ RO K G H o v (fp (.s i)) := by
  obtain ⟨v, hv⟩ := S.has i o h
  refine ⟨v, hv, S.rep (.s i) o v ?_⟩
  show (match env[i]?, σ[i]? with | some (some o), some (some v) => some (o, v) | _, _ => none) = _
  rw [h, hv]
theorem Stt.grow (S : Stt K g G H env σ ts fp) (w : Grow G H G' H') : Stt K g G' H' env σ ts fp where
  len := S.len
  has := S.has
  sub := w.sub
  rep := fun ix o v e => ro_mono w.gg o v _ (fun a ha => by
    obtain ⟨_, h2, _⟩ := S.ow ix a ha
    cases q : H a with
    | none => exact absurd q h2
    | some u => rw [w.hh a u q]) (S.rep ix o v e)
  nd := S.nd
  dj := S.dj
  ow := fun ix a ha => by
    obtain ⟨h1, h2, h3⟩ := S.ow ix a ha
    refine ⟨?_, fun z => h2 (w.hh.none z), h3⟩
    cases q : G' a with
    | none => rfl
    | some u => exact ((w.nw a (by rw [q]; simp)).elim (fun z => z h1) fun z => h2 z).elim
  fr := fun b u h1 h2 => w.hh b u (S.fr b u h1 h2)
  dm := fun b h z => S.dm b h (w.hh.none z)
  g0 := S.g0.trans w.gg
  go := fun a h => (w.nw a h).elim (fun h => S.go a h) fun h => by
    by_cases z : g.H0 a = none
    · exact .inr (.inr z)
    · exact absurd h (S.dm a z)
  kp := S.kp
/-- slots and temporaries moved, some forgotten -/
theorem Stt.re (S : Stt K g G H env σ ts fp) (π : Ix → Ix) (inj : ∀ ix jx, π ix = π jx → ix = jx) (hl : σ'.length = env'.length) (hh : ∀ (i : Nat) (o : O), env'[i]? = some (some o) → ∃ v : V, σ'[i]? = some (some v))
    (ha : ∀ ix o v, att env' σ' ts' ix = some (o, v) → att env σ ts (π ix) = some (o, v)) (hk : ∀ j : Nat, j < 8 → σ'[j]? = σ[j]? := by exact fun _ _ => rfl) : Stt K g G H env' σ' ts' (fun ix => fp (π ix)) where
  len := hl
  has := hh
  sub := S.sub
  rep := fun ix o v e => S.rep _ o v (ha ix o v e)
  nd := fun ix => S.nd _
  dj := fun ix jx a h1 h2 => inj _ _ (S.dj _ _ a h1 h2)
  ow := fun ix => S.ow _
  fr := S.fr
  dm := S.dm
  g0 := S.g0
  go := S.go
  kp := fun j x h1 h2 => (hk j h1).trans (S.kp j x h1 h2)
theorem att_push {x : O × V} (ix : Ix) : att env σ (ts ++ [x]) ix = if ix = .t ts.length then some x else att env σ ts ix := by
  cases ix with
  | s i => rw [if_neg (by intro h; cases h)]; rfl
  | t j =>
    show (ts ++ [x])[j]? = _
    by_cases h : j = ts.length
    · subst h; rw [if_pos rfl]; simp
    · rw [if_neg (by intro z; injection z with z; exact h z)]
      show _ = ts[j]?
      rw [List.getElem?_append]
      split
      · rfl
      · rename_i hlt
        have h1 : ts.length < j := by omega
        rw [List.getElem?_eq_none (l := ts) (by omega)]
        rw [List.getElem?_eq_none (by show 1 ≤ j - ts.length; omega)]
/-- a temporary more -/
theorem Stt.push (S : Stt K g G H env σ ts fp) {o : O} {v : V} {F : List Addr} (r : RO K G H o v F) (nd : F.Nodup) (dj : ∀ ix a, a ∈ F → a ∉ fp ix) (ow : ∀ a ∈ F, G a = none ∧ H a ≠ none ∧ (g.F0 a ∨ g.H0 a = none)) :
    Stt K g G H env σ (ts ++ [(o, v)]) (fun ix => if ix = .t ts.length then F else fp ix) where
  len := S.len
  has := S.has
  sub := S.sub
  rep := fun ix o' v' e => by
    rw [att_push] at e
    by_cases h : ix = .t ts.length
    · rw [if_pos h] at e ⊢; cases e; exact r
    · rw [if_neg h] at e ⊢; exact S.rep ix o' v' e
  nd := fun ix => by
    by_cases h : ix = .t ts.length
    · rw [if_pos h]; exact nd
    · rw [if_neg h]; exact S.nd ix
  dj := fun ix jx a h1 h2 => by
    by_cases h : ix = .t ts.length
    · rw [if_pos h] at h1
      by_cases h' : jx = .t ts.length
      · rw [h, h']
      · rw [if_neg h'] at h2; exact absurd h2 (dj _ _ h1)
    · rw [if_neg h] at h1
      by_cases h' : jx = .t ts.length
      · rw [if_pos h'] at h2; exact absurd h1 (dj _ _ h2)
      · rw [if_neg h'] at h2; exact S.dj _ _ a h1 h2
  ow := fun ix a h => by
    by_cases q : ix = .t ts.length
    · rw [if_pos q] at h; exact ow a h
    · rw [if_neg q] at h; exact S.ow ix a h
  fr := S.fr
  dm := S.dm
  g0 := S.g0
  go := S.go
  kp := S.kp
/-- a new list of one's own -/
theorem Stt.pushNew (S : Stt K g G H env σ ts fp) (w : Grow G H G' H') {p : Addr} {vs : List V} {ds : List D} (hp : H p = none) (hg : G' p = none) (hl : H' p = some (.lst vs)) (hd : DpAll K G' vs ds) :
    ∃ fp', Stt K g G' H' env σ (ts ++ [(.lst (vals ds), .ref p)]) fp' := by
  refine ⟨_, (S.grow w).push (F := [p]) (.lst hl (ros_vals hd)) (by simp) (fun ix a ha h => ?_) fun a ha => ?_⟩
  · have e : a = p := by simpa using ha
    subst e
    exact (S.ow ix a h).2.1 hp
  · have e : a = p := by simpa using ha
    subst e
    refine ⟨hg, by rw [hl]; simp, .inr ?_⟩
    cases q : g.H0 a with
    | none => rfl
    | some u => exact absurd hp (S.dm a (by rw [q]; simp))
theorem Stt.pushVal (S : Stt K g G H env σ ts fp) {d : D} {v : V} (h : Dp K G v d) : ∃ fp', Stt K g G H env σ (ts ++ [(.val d, v)]) fp' :=
  ⟨_, S.push (F := []) (.val h) List.nodup_nil (fun _ _ h => by cases h) fun _ h => by cases h⟩
theorem att_take {n : Nat} {ix : Ix} {x : O × V} (h : att env σ (ts.take n) ix = some x) : att env σ ts ix = some x := by
  cases ix with
  | s i => exact h
  | t j =>
    have h : (ts.take n)[j]? = some x := h
    show ts[j]? = some x
    rw [List.getElem?_take] at h
    split at h
    · exact h
    · cases h
/-- the last temporaries forgotten -/
theorem Stt.drop (S : Stt K g G H env σ (ts ++ ts') fp) : Stt K g G H env σ ts fp :=
  S.re id (fun _ _ h => h) S.len S.has fun ix o v e => by
    have : ts = (ts ++ ts').take ts.length := by simp
    rw [this] at e
    exact att_take e
/-- what a slot or temporary owns is let go -/
theorem Stt.letgo (S : Stt K g G H env σ ts fp) {ix : Ix} {o : O} {v : V} (h : att env σ ts ix = some (o, v)) :
    ∃ G', Ex G G' ∧ Dp K G' v o.frz ∧ (∀ env' ts', env'.length = env.length → (∀ (i : Nat) (o : O), env'[i]? = some (some o) → ∃ v : V, σ[i]? = some (some v)) → (∀ jx o' v', att env' σ ts' jx = some (o', v') → (jx ≠ ix ∧ att env σ ts jx = some (o', v')) ∨ (Dp K G' v' o'.frz ∧ ∃ d, o' = .val d)) →
      ∃ fp', Stt K g G' H env' σ ts' fp') := by
  have hx : Ex G (put G H (fp ix)) := fun a u q => by
    rw [put_out (fun z => by rw [(S.ow ix a z).1] at q; cases q)]; exact q
  have r := S.rep ix o v h
  refine ⟨put G H (fp ix), hx, ro_frz hx o v _ (fun a ha => put_in ha) r, fun env' ts' hl hh k => ⟨fun jx => match att env' σ ts' jx with | some (.val _, _) => [] | _ => if jx = ix then [] else fp jx, ?_⟩⟩
  refine ⟨S.len.trans hl.symm, hh, fun a u q => ?_, fun jx o' v' e => ?_, fun jx => ?_, fun jx kx a h1 h2 => ?_, fun jx a ha => ?_, S.fr, S.dm, S.g0.trans hx, fun a q => ?_, S.kp⟩
  · by_cases z : a ∈ fp ix
    · rw [put_in z] at q; exact q
    · rw [put_out z] at q; exact S.sub a u q
  · try dsimp only
    rw [e]
    rcases k jx o' v' e with ⟨ne, e0⟩ | ⟨q, d, rfl⟩
    · have r' := S.rep jx o' v' e0
      cases o' with
      | val d => exact .val (Dpm hx (ro_val r').2)
      | lst os => dsimp only; rw [if_neg ne]; exact ro_mono hx _ _ _ (fun _ _ => rfl) r'
      | tup os => dsimp only; rw [if_neg ne]; exact ro_mono hx _ _ _ (fun _ _ => rfl) r'
    · exact .val q
  · (try dsimp only); split
    · exact List.nodup_nil
    · split
      · exact List.nodup_nil
      · exact S.nd jx
  · try dsimp only at h1 h2
    split at h1
    · cases h1
    · split at h1
      · cases h1
      · split at h2
        · cases h2
        · split at h2
          · cases h2
          · exact S.dj _ _ a h1 h2
  · try dsimp only at ha
    split at ha
    · cases ha
    · split at ha
      · cases ha
      · rename_i ne
        obtain ⟨h1, h2, h3⟩ := S.ow jx a ha
        refine ⟨?_, h2, h3⟩
        rw [put_out (fun z => ne (S.dj _ _ a ha z))]; exact h1
  · by_cases z : a ∈ fp ix
    · exact .inr ((S.ow ix a z).2.2)
    · rw [put_out z] at q; exact S.go a q
end
end MP

namespace MP
open PySem PySem.Spec PyProof.Rows L2
section
variable {K : PySem.W.Frag} {g : Gh} {G H G' H' : Hp} {env env' envA : Env} {σ σ' σA : L2.St} {ts ts' tsA : Tmp} {fp fp' : Ix → List Addr} {F0 : Addr → Prop} {S00 : L2.St}
/-- from what ran over a part of the state, with the rest of it: c tells where each thing lies behind it -/
theorem Stt.frame (S : Stt K g G H env σ ts fp) (S' : Stt K ⟨G, H, F0, S00⟩ G' H' env' σ' ts' fp') (I : Ix → Prop) (hF : ∀ a, F0 a → ∃ ix, I ix ∧ a ∈ fp ix)
    (c : Ix → Ix ⊕ Ix) (inj : ∀ ix jx, c ix = c jx → ix = jx) (hl : σA.length = envA.length) (hh : ∀ (i : Nat) (o : O), envA[i]? = some (some o) → ∃ v : V, σA[i]? = some (some v))
    (ha : ∀ ix o v, att envA σA tsA ix = some (o, v) → (∃ k, c ix = .inl k ∧ att env' σ' ts' k = some (o, v)) ∨ (∃ k, c ix = .inr k ∧ ¬ I k ∧ att env σ ts k = some (o, v)) ∨ ∃ d, o = .val d ∧ Dp K G' v d) (hk : ∀ j : Nat, j < 8 → σA[j]? = σ[j]? := by exact fun _ _ => rfl) :
    ∃ fpA, Stt K g G' H' envA σA tsA fpA := by
  have hd : ∀ a, F0 a → G a = none ∧ H a ≠ none ∧ (g.F0 a ∨ g.H0 a = none) := fun a h => by
    obtain ⟨ix, _, hx⟩ := hF a h
    exact S.ow ix a hx
  have far : ∀ k a, ¬ I k → a ∈ fp k → ¬ F0 a := fun k a hk hx h => by
    obtain ⟨ix, hi, hx'⟩ := hF a h
    exact hk ((S.dj _ _ a hx hx') ▸ hi)
  have ownR : ∀ k a, ¬ I k → a ∈ fp k → G' a = none ∧ H' a = H a ∧ H a ≠ none := fun k a hk hx => by
    obtain ⟨h1, h2, _⟩ := S.ow k a hx
    have nf := far k a hk hx
    refine ⟨?_, ?_, h2⟩
    · cases q : G' a with
      | none => rfl
      | some u =>
        rcases S'.go a (by rw [q]; simp) with z | z | z
        · exact absurd h1 z
        · exact absurd z nf
        · exact absurd z h2
    · cases q : H a with
      | none => exact absurd q h2
      | some u => exact S'.fr a u q nf
  have ownL : ∀ k a, a ∈ fp' k → G' a = none ∧ H' a ≠ none ∧ (F0 a ∨ H a = none) := fun k a h => S'.ow k a h
  refine ⟨fun ix => match att envA σA tsA ix with
    | none => []
    | some (.val _, _) => []
    | some _ => match c ix with
      | .inl k => fp' k
      | .inr k => fp k, ?_⟩
  -- what a live place owns
  have live : ∀ ix a, a ∈ (match att envA σA tsA ix with | none => [] | some (.val _, _) => [] | some _ => match c ix with | .inl k => fp' k | .inr k => fp k) →
      (∃ k, c ix = .inl k ∧ a ∈ fp' k) ∨ ∃ k, c ix = .inr k ∧ ¬ I k ∧ a ∈ fp k := fun ix a hm => by
    cases q : att envA σA tsA ix with
    | none => rw [q] at hm; cases hm
    | some x =>
      obtain ⟨o, v⟩ := x
      rw [q] at hm
      cases o with
      | val d => cases hm
      | lst os =>
        rcases ha ix _ v q with ⟨k, e, _⟩ | ⟨k, e, hk, _⟩ | ⟨d, z, _⟩
        · simp only [e] at hm; exact .inl ⟨k, e, hm⟩
        · simp only [e] at hm; exact .inr ⟨k, e, hk, hm⟩
        · cases z
      | tup os =>
        rcases ha ix _ v q with ⟨k, e, _⟩ | ⟨k, e, hk, _⟩ | ⟨d, z, _⟩
        · simp only [e] at hm; exact .inl ⟨k, e, hm⟩
        · simp only [e] at hm; exact .inr ⟨k, e, hk, hm⟩
        · cases z
  refine ⟨hl, hh, S'.sub, fun ix o v e => ?_, fun ix => ?_, fun ix jx a h1 h2 => ?_, fun ix a hm => ?_, fun b u h1 h2 => ?_, fun b h z => ?_, S.g0.trans S'.g0, fun a q => ?_, fun j x h1 h2 => (hk j h1).trans (S.kp j x h1 h2)⟩
  · show RO K G' H' o v (match att envA σA tsA ix with | none => [] | some (.val _, _) => [] | some _ => match c ix with | .inl k => fp' k | .inr k => fp k)
    rw [e]
    have key : (∃ k, c ix = .inl k ∧ RO K G' H' o v (fp' k)) ∨ (∃ k, c ix = .inr k ∧ RO K G' H' o v (fp k)) ∨ ∃ d, o = .val d ∧ Dp K G' v d := by
      rcases ha ix o v e with ⟨k, e1, e2⟩ | ⟨k, e1, hk, e2⟩ | z
      · exact .inl ⟨k, e1, S'.rep k o v e2⟩
      · exact .inr (.inl ⟨k, e1, ro_mono S'.g0 o v _ (fun a hx => (ownR k a hk hx).2.1) (S.rep k o v e2)⟩)
      · exact .inr (.inr z)
    cases o with
    | val d =>
      rcases key with ⟨k, _, r⟩ | ⟨k, _, r⟩ | ⟨d', z, r⟩
      · exact .val (ro_val r).2
      · exact .val (ro_val r).2
      · cases z; exact .val r
    | lst os =>
      rcases key with ⟨k, e1, r⟩ | ⟨k, e1, r⟩ | ⟨d', z, r⟩
      · simp only [e1]; exact r
      · simp only [e1]; exact r
      · cases z
    | tup os =>
      rcases key with ⟨k, e1, r⟩ | ⟨k, e1, r⟩ | ⟨d', z, r⟩
      · simp only [e1]; exact r
      · simp only [e1]; exact r
      · cases z
  · show (match att envA σA tsA ix with | none => [] | some (.val _, _) => [] | some _ => match c ix with | .inl k => fp' k | .inr k => fp k).Nodup
    split
    · exact List.nodup_nil
    · exact List.nodup_nil
    · split
      · exact S'.nd _
      · exact S.nd _
  · rcases live ix a h1 with ⟨k, e1, m1⟩ | ⟨k, e1, n1, m1⟩ <;> rcases live jx a h2 with ⟨l, e2, m2⟩ | ⟨l, e2, n2, m2⟩
    · exact inj _ _ (by rw [e1, e2, S'.dj _ _ a m1 m2])
    · obtain ⟨_, _, z⟩ := ownL k a m1
      rcases z with z | z
      · exact absurd z (far l a n2 m2)
      · exact absurd z (S.ow l a m2).2.1
    · obtain ⟨_, _, z⟩ := ownL l a m2
      rcases z with z | z
      · exact absurd z (far k a n1 m1)
      · exact absurd z (S.ow k a m1).2.1
    · exact inj _ _ (by rw [e1, e2, S.dj _ _ a m1 m2])
  · rcases live ix a hm with ⟨k, e1, m1⟩ | ⟨k, e1, n1, m1⟩
    · obtain ⟨h1, h2, z⟩ := ownL k a m1
      refine ⟨h1, h2, ?_⟩
      rcases z with z | z
      · exact (hd a z).2.2
      · by_cases q : g.H0 a = none
        · exact .inr q
        · exact absurd z (S.dm a q)
    · obtain ⟨h1, h2, h3⟩ := ownR k a n1 m1
      exact ⟨h1, by rw [h2]; exact h3, (S.ow k a m1).2.2⟩
  · refine S'.fr b u (S.fr b u h1 h2) fun z => ?_
    rcases (hd b z).2.2 with z | z
    · exact h2 z
    · rw [h1] at z; cases z
  · exact S'.dm b (S.dm b h) z
  · rcases S'.go a q with z | z | z
    · exact S.go a z
    · exact .inr (hd a z).2.2
    · by_cases q : g.H0 a = none
      · exact .inr (.inr q)
      · exact absurd z (S.dm a q)
end
end MP

set_option Elab.async false
set_option linter.all false
set_option maxRecDepth 100000
set_option maxHeartbeats 2000000
namespace MP
open PySem PySem.Spec PyProof.Rows L2

/-- an exception of the text's own: its class, its one field -/
structure Exc where
  cls : Str
  arg : Option D
inductive Out (α : Type) where
  | ok (a : α) (e : Env)
  | exc (x : Exc) (e : Env)
  | no
abbrev M (α : Type) := Env → Out α
section
variable {α β : Type}
def pur (a : α) : M α := fun e => .ok a e
def bnd (m : M α) (f : α → M β) : M β := fun e => match m e with
  | .ok a e' => f a e'
  | .exc x e' => .exc x e'
  | .no => .no
def bad : M α := fun _ => .no
def opt : Option α → M α
  | some a => pur a
  | none => bad
end
def fz (m : M O) : M D := bnd m fun o => pur o.frz
/-- what a built-in thing makes: shared data, a new list -/
inductive Res where
  | val (d : D)
  | new (ds : List D)
def Res.o : Res → O
  | .val d => .val d
  | .new ds => .lst (vals ds)
def resM (r : Option Res) : M O := bnd (opt r) fun r => pur r.o

def lenOk (n : Nat) : Bool := decide (n ≤ sizeLine)
def mulOk (i j : Int) : Bool := (decide (-(2 ^ 64) < i) && decide (i < 2 ^ 64)) || (decide (-(2 ^ 64) < j) && decide (j < 2 ^ 64))
def binR : Operator → D → D → Option Res
  | .Add, .int i, .int j => some (.val (.int (i + j)))
  | .Add, .str a, .str b => if lenOk (a.length + b.length) then some (.val (.str (a ++ b))) else none
  | .Add, .list a, .list b => if lenOk (a.length + b.length) then some (.new (a ++ b)) else none
  | .Add, .tuple a, .tuple b => if lenOk (a.length + b.length) then some (.val (.tuple (a ++ b))) else none
  | .Sub, .int i, .int j => some (.val (.int (i - j)))
  | .Mult, .int i, .int j => if mulOk i j then some (.val (.int (i * j))) else none
  | .FloorDiv, .int i, .int j => if decide (0 < j) && decide (j < 1073741824) then some (.val (.int (i / j))) else none
  | .Mod, .int i, .int j => if decide (0 < j) then some (.val (.int (i % j))) else none
  | .Pow, .int i, .int j => if decide (0 ≤ j) && decide (j ≤ 1000000) && decide (i.natAbs < 2 ^ 64) then some (.val (.int (i ^ j.toNat))) else none
  | _, _, _ => none
def intsD : List D → Option (List Int)
  | [] => some []
  | .int i :: r => (intsD r).map (i :: ·)
  | _ :: _ => none
def boolsD : List D → Option (List Bool)
  | [] => some []
  | .bool i :: r => (boolsD r).map (i :: ·)
  | _ :: _ => none
def strsD : List D → Option (List Str)
  | [] => some []
  | .str i :: r => (strsD r).map (i :: ·)
  | _ :: _ => none
def eqR (x y : D) : Option Bool := match x, y with
  | .int i, .int j => some (decide (i = j))
  | .str i, .str j => some (decide (i = j))
  | _, _ => if SeqAt.shaped x && SeqAt.shaped y then some (PyData.eqv x y) else none
def inR (x y : D) : Option Bool := match y with
  | .str z => match x with
    | .str c => match c.cps.toList with
      | [c] => some (decide (c ∈ z.cps.toList))
      | _ => none
    | _ => none
  | .list ds => if SeqAt.shaped x && SeqAt.shaped (.list ds) then some (ds.any fun z => PyData.eqv z x) else none
  | _ => none
def cmpR : CmpOp → D → D → Option Bool
  | .Eq, x, y => eqR x y
  | .NotEq, x, y => (eqR x y).map (!·)
  | .Lt, .int i, .int j => some (decide (i < j))
  | .LtE, .int i, .int j => some (decide (i ≤ j))
  | .Gt, .int i, .int j => some (decide (j < i))
  | .GtE, .int i, .int j => some (decide (j ≤ i))
  | .Lt, .tuple a, .tuple b => match intsD a, intsD b with
    | some ns, some ms => some (HT.lexLt ns ms)
    | _, _ => none
  | .In, x, y => inR x y
  | .NotIn, x, y => (inR x y).map (!·)
  | .Is, x, .none => match x with
    | .none => some true
    | _ => some false
  | .IsNot, x, .none => match x with
    | .none => some false
    | _ => some true
  | _, _, _ => none
def truR : D → Option Bool
  | .none => some false
  | .bool b => some b
  | .int i => some (i != 0)
  | .list ds => some (!ds.isEmpty)
  | .tuple ds => some (!ds.isEmpty)
  | _ => none
def ixR : D → D → Option D
  | .list ds, .int i => atI ds i
  | .tuple ds, .int i => atI ds i
  | .str z, .int i => if lenOk z.length then (atI z.cps.toList i).map fun c => .str ⟨#[c]⟩ else none
  | _, _ => none
def cutD (xs : List D) (lo hi : Option Int) : List D := (xs.drop (HT.sIx xs.length 0 lo)).take (HT.sIx xs.length xs.length hi - HT.sIx xs.length 0 lo)
def slR : D → Option Int → Option Int → Option Res
  | .list ds, lo, hi => some (.new (cutD ds lo hi))
  | .tuple ds, lo, hi => some (.val (.tuple (cutD ds lo hi)))
  | .str z, lo, hi => if lenOk z.length then some (.val (.str (cutS z lo hi))) else none
  | _, _, _ => none
def tyR : D → String
  | .none => "NoneType"
  | .bool _ => "bool"
  | .int _ => "int"
  | .str _ => "str"
  | .list _ => "list"
  | .tuple _ => "tuple"
  | .dict _ => "dict"
def isiR (d : D) (T : String) : Option Bool := kitB (tyR d) T
def smallI (i : Int) : Bool := decide (i.natAbs.log2 < 1920)
def fmtR : D → Option Str
  | .str y => if lenOk y.length then some y else none
  | .int i => if smallI i then some (toString i) else none
  | _ => none
def joinR (a : Str) (ys : List Str) : Option Str := if decide ((ys.map (·.length)).sum + ys.length * a.length ≤ 16777216) then some (Txt.join a ys) else none
/-- functions of the language -/
def lenR : List D → Option Res
  | [.list ds] => some (.val (.int ds.length))
  | [.tuple ds] => some (.val (.int ds.length))
  | [.str z] => if lenOk z.length then some (.val (.int z.length)) else none
  | _ => none
def allR : List D → Option Res
  | [.list ds] => (boolsD ds).map fun bs => .val (.bool (bs.all id))
  | _ => none
def anyR : List D → Option Res
  | [.list ds] => (boolsD ds).map fun bs => .val (.bool (bs.any id))
  | _ => none
def sumR : List D → Option Res
  | [.list ds] => (intsD ds).map fun ns => .val (.int ns.sum)
  | _ => none
def absR : List D → Option Res
  | [.int i] => some (.val (.int (if i < 0 then -i else i)))
  | _ => none
def minR : List D → Option Res
  | [.int i, .int j] => some (.val (.int (if j < i then j else i)))
  | _ => none
def maxR : List D → Option Res
  | [.int i, .int j] => some (.val (.int (if j > i then j else i)))
  | _ => none
def intR : List D → Option Res
  | [.int i] => some (.val (.int i))
  | [.bool b] => some (.val (.int (if b then 1 else 0)))
  | [.str z] => if decide (z.length ≤ 640) then (intText? z).map fun n => .val (.int n) else none
  | _ => none
def strR : List D → Option Res
  | [.int i] => if smallI i then some (.val (.str (toString i))) else none
  | _ => none
def listR : List D → Option Res
  | [.list ds] => some (.new ds)
  | [.tuple ds] => some (.new ds)
  | _ => none
def tupleR : List D → Option Res
  | [.list ds] => some (.val (.tuple ds))
  | [.tuple ds] => some (.val (.tuple ds))
  | _ => none
inductive Bi where
  | len | all | any | sum | abs | min | max | int | str | list | tuple
  deriving DecidableEq
def biR : Bi → List D → Option Res
  | .len => lenR
  | .all => allR
  | .any => anyR
  | .sum => sumR
  | .abs => absR
  | .min => minR
  | .max => maxR
  | .int => intR
  | .str => strR
  | .list => listR
  | .tuple => tupleR
def biName : Bi → Str
  | .len => "len"
  | .all => "all"
  | .any => "any"
  | .sum => "sum"
  | .abs => "abs"
  | .min => "min"
  | .max => "max"
  | .int => "int"
  | .str => "str"
  | .list => "list"
  | .tuple => "tuple"
/-- methods of texts -/
def splitR (a : Str) : D → Option Res
  | .str b => if (b.length != 0) && decide (a.length + 2 ≤ sizeLine) then some (.new ((Txt.split a b).map .str)) else none
  | _ => none
def joinD (a : Str) : D → Option Res
  | .list ds => (strsD ds).bind fun ys => (joinR a ys).map fun z => .val (.str z)
  | _ => none

/-- a name's value (what it owns is let go) -/
def mVar (i : Nat) : M O := fun e => match e[i]? with
  | some (some (.val d)) => .ok (.val d) e
  | some (some o) => .ok (.val o.frz) (e.set i (some (.val o.frz)))
  | _ => .no
/-- a name's value, the last time -/
def mTake (i : Nat) : M O := fun e => match e[i]? with
  | some (some o) => .ok o (e.set i none)
  | _ => .no
def mC (d : D) : M O := pur (.val d)
def mBin (op : Operator) (a b : M D) : M O := bnd a fun x => bnd b fun y => resM (binR op x y)
def mNeg (a : M D) : M O := bnd a fun x => match x with
  | .int i => pur (.val (.int (-i)))
  | _ => bad
def mB (t : M Bool) : M O := bnd t fun b => pur (.val (.bool b))
def mCmp (op : CmpOp) (a b : M D) : M Bool := bnd a fun x => bnd b fun y => opt (cmpR op x y)
def mChain (op op' : CmpOp) (a b c : M D) : M Bool := bnd a fun x => bnd b fun y => bnd (opt (cmpR op x y)) fun k => if k then bnd c fun z => opt (cmpR op' y z) else pur false
def mAnd (t u : M Bool) : M Bool := bnd t fun b => if b then u else pur false
def mOr (t u : M Bool) : M Bool := bnd t fun b => if b then pur true else u
def mNot (t : M Bool) : M Bool := bnd t fun b => pur (!b)
def mTru (m : M D) : M Bool := bnd m fun d => opt (truR d)
/-- and, or of truths as values: the last one may be anything -/
def mIsB (m : M D) : M Bool := bnd m fun d => match d with
  | .bool b => pur b
  | _ => bad
def mAndV (t : M Bool) (m : M O) : M O := bnd t fun b => if b then m else pur (.val (.bool false))
def mOrV (t : M Bool) (m : M O) : M O := bnd t fun b => if b then pur (.val (.bool true)) else m
def mIf {α : Type} (t : M Bool) (a b : M α) : M α := bnd t fun c => if c then a else b
def mIx (a b : M D) : M O := bnd a fun x => bnd b fun y => resM ((ixR x y).map .val)
/-- x[k], x a name: the list stays x's own -/
def mSub (i : Nat) (b : M D) : M O := fun e => match e[i]? with
  | some (some _) => match b e with
    | .ok y e' => match e'[i]? with
      | some (some (.val d)) => match ixR d y with
        | some z => .ok (.val z) e'
        | none => .no
      | some (some (.lst os)) => match y with
        | .int k => match atI os k with
          | some (.val z) => .ok (.val z) e'
          | _ => .no
        | _ => .no
      | _ => .no
    | .exc x e' => .exc x e'
    | .no => .no
  | _ => .no
def mPart (m : M D) : M (Option Int) := bnd m fun d => match d with
  | .int i => pur (some i)
  | _ => bad
def mSl (a : M D) (lo hi : M (Option Int)) : M O := bnd a fun x => bnd lo fun l => bnd hi fun h => resM (slR x l h)
def mList {α : Type} : List (M α) → M (List α)
  | [] => pur []
  | m :: ms => bnd m fun d => bnd (mList ms) fun ds => pur (d :: ds)
def mTup (ms : List (M D)) : M O := bnd (mList ms) fun ds => if lenOk ds.length then pur (.val (.tuple ds)) else bad
def mLst (ms : List (M D)) : M O := bnd (mList ms) fun ds => if lenOk ds.length then pur (.lst (vals ds)) else bad
def mBi (f : Bi) (ms : List (M D)) : M O := bnd (mList ms) fun ds => resM (biR f ds)
def mMt (f : Str → D → Option Res) (m n : M D) : M O := bnd m fun d => match d with
  | .str a => bnd n fun x => resM (f a x)
  | _ => bad
def mIsi (m : M D) (T : String) : M Bool := bnd m fun d => opt (isiR d T)
def mFmt (m : M D) : M D := bnd m fun d => bnd (opt (fmtR d)) fun z => pur (.str z)
def mJs : List (M D) → Str → M Str
  | [], acc => pur acc
  | m :: ms, acc => bnd m fun d => match d with
    | .str y => if lenOk (acc ++ y).length then mJs ms (acc ++ y) else bad
    | _ => bad
def mJoin (ms : List (M D)) : M O := bnd (mJs ms Str.empty) fun z => pur (.val (.str z))
/-- a place within what a name owns: the intsD lead to it -/
def getP : O → List Int → Option O
  | o, [] => some o
  | .lst os, i :: p => (atI os i).bind fun o => getP o p
  | .tup os, i :: p => (atI os i).bind fun o => getP o p
  | .val _, _ :: _ => none
def setP (f : O → Option O) : O → List Int → Option O
  | o, [] => f o
  | .lst os, i :: p => (ixN os.length i).bind fun j => (os[j]?).bind fun o => (setP f o p).map fun o' => .lst (os.set j o')
  | .tup os, i :: p => (ixN os.length i).bind fun j => (os[j]?).bind fun o => (setP f o p).map fun o' => .tup (os.set j o')
  | .val _, _ :: _ => none
/-- x[..][..] == [] or such, looked at where it lies -/
def mCmpP (op : CmpOp) (i : Nat) (p : List Int) (c : D) : M Bool := fun e => match e[i]? with
  | some (some o) => match getP o p with
    | some o' => match cmpR op o'.frz c with
      | some b => .ok b e
      | none => .no
    | none => .no
  | _ => .no
/-- len(x), x a name, looked at where it lies -/
def mLenN (i : Nat) : M O := fun e => match e[i]? with
  | some (some o) => match lenR [o.frz] with
    | some r => .ok r.o e
    | none => .no
  | _ => .no

inductive Arg where
  | val (d : D)
  | lend (i : Nat)
inductive FOut where
  | ok (o : O) (fin : List (Option O))
  | exc (x : Exc) (fin : List (Option O))
  | no
abbrev Den := Str → List O → FOut
/-- a name that owns something is lent -/
def mArg (i : Nat) : M Arg := fun e => match e[i]? with
  | some (some (.val d)) => .ok (.val d) e
  | some (some _) => .ok (.lend i) e
  | _ => .no
def aVal (m : M O) : M Arg := bnd m fun o => pur (.val o.frz)
def given (e : Env) : List Arg → Option (List O)
  | [] => some []
  | .val d :: r => (given e r).map (.val d :: ·)
  | .lend i :: r => match e[i]? with
    | some (some o) => (given e r).map (o :: ·)
    | _ => none
def lents : List Arg → List Nat
  | [] => []
  | .val _ :: r => lents r
  | .lend i :: r => i :: lents r
def taken : List Arg → List (Option O) → Env → Env
  | .lend i :: r, x :: xs, e => taken r xs (e.set i x)
  | .val _ :: r, _ :: xs, e => taken r xs e
  | _, _, e => e
def callM (den : Den) (f : Str) (as : List Arg) : M O := fun e => match given e as with
  | some os => if (lents as).Nodup then match den f os with
    | .ok o fin => if fin.length = as.length then .ok o (taken as fin e) else .no
    | .exc x fin => if fin.length = as.length then .exc x (taken as fin e) else .no
    | .no => .no
    else .no
  | none => .no
def mCall (den : Den) (f : Str) (as : List (M Arg)) : M O := bnd (mList as) fun as => callM den f as

def setL (pins : List Nat) (i : Nat) (o : O) (e : Env) : Option Env := if decide (i < e.length) && (!pins.contains i && decide (8 ≤ i)) then some (e.set i (some o)) else none
inductive Tg where
  | name (i : Nat)
  | tup (is : List Nat)
  | star (i j : Nat)
def setAll (pins : List Nat) : List Nat → List D → Env → Option Env
  | [], [], e => some e
  | i :: is, d :: ds, e => (setL pins i (.val d) e).bind (setAll pins is ds)
  | _, _, _ => none
def tgF (pins : List Nat) : Tg → D → Env → Option Env
  | .name i, d, e => setL pins i (.val d) e
  | .tup is, .tuple ds, e => setAll pins is ds e
  | .tup is, .list ds, e => setAll pins is ds e
  | .star i j, .list (d :: ds), e => (setL pins i (.val d) e).bind (setL pins j (.lst (vals ds)))
  | _, _, _ => none

abbrev Itm := M (List D)
def mSeq (m : M D) : Itm := bnd m fun d => match d with
  | .list ds => pur ds
  | .tuple ds => pur ds
  | .str z => pur (z.cps.toList.map fun c => .str ⟨#[c]⟩)
  | _ => bad
def rangeD (lo : Int) (n : Nat) : List D := (List.range n).map fun (k : Nat) => .int (lo + (k : Int))
def bigOk (i : Int) : Bool := decide (-(2 ^ 62) ≤ i) && decide (i < 2 ^ 62)
def mRng1 (a : M D) : Itm := bnd a fun x => match x with
  | .int j => if bigOk j then pur (rangeD 0 j.toNat) else bad
  | _ => bad
def mRng2 (a b : M D) : Itm := bnd a fun x => bnd b fun y => match x, y with
  | .int i, .int j => if bigOk i && bigOk j then pur (rangeD i (j - i).toNat) else bad
  | _, _ => bad
/-- range(a, b, -1) -/
def downD (hi : Int) (n : Nat) : List D := (List.range n).map fun (k : Nat) => .int (hi - (k : Int))
def mDown (a b : M D) : Itm := bnd a fun x => bnd b fun y => match x, y with
  | .int i, .int j => if bigOk i && bigOk j then pur (downD i (i - j).toNat) else bad
  | _, _ => bad
def numD : Nat → List D → List D
  | _, [] => []
  | k, d :: ds => .tuple [.int k, d] :: numD (k + 1) ds
def mEnum (m : M D) : Itm := bnd m fun d => match d with
  | .list ds => pur (numD 0 ds)
  | .tuple ds => pur (numD 0 ds)
  | _ => bad
def zipD : List D → List D → List D
  | x :: xs, y :: ys => .tuple [x, y] :: zipD xs ys
  | _, _ => []
def seqR : D → Option (List D)
  | .list ds => some ds
  | .tuple ds => some ds
  | .str z => some (z.cps.toList.map fun c => .str ⟨#[c]⟩)
  | _ => none
def mZip (a b : M D) : Itm := bnd a fun x => bnd b fun y => match x, y with
  | .list xs, .list ys => pur (zipD xs ys)
  | .tuple xs, .tuple ys => pur (zipD xs ys)
  | .str z, .list ys => pur (zipD (z.cps.toList.map fun c => .str ⟨#[c]⟩) ys)
  | _, _ => bad

def plainAt (e : Env) (i : Nat) : Bool := match e[i]? with
  | some (some (.val _)) => true
  | some (some _) => false
  | _ => true
def wipeE (e : Env) : List Nat → Env
  | [] => e
  | v :: vs => (wipeE e vs).set v none
def backE (e0 : Env) (e : Env) : List Nat → Env
  | [] => e
  | v :: vs => (backE e0 e vs).set v ((e0[v]?).getD none)
def lcGo (ws : List Nat) (tg : D → Env → Option Env) (cond : M Bool) (elt : M D) : List D → Env → List D → Out (List D)
  | [], e, acc => .ok acc e
  | d :: ds, e, acc => match tg d (wipeE e ws) with
    | some e1 => match cond e1 with
      | .ok true e2 => match elt e2 with
        | .ok x e3 => if decide (acc.length < sizeLine) then lcGo ws tg cond elt ds (wipeE e3 ws) (acc ++ [x]) else .no
        | _ => .no
      | .ok false e2 => lcGo ws tg cond elt ds (wipeE e2 ws) acc
      | _ => .no
    | none => .no
def mLc (it : Itm) (ws : List Nat) (tg : D → Env → Option Env) (cond : M Bool) (elt : M D) : M O := fun e => match it e with
  | .ok ds e1 => if ws.all (plainAt e1) then match lcGo ws tg cond elt ds e1 [] with
    | .ok acc e2 => .ok (.lst (vals acc)) (backE e1 e2 ws)
    | _ => .no
    else .no
  | .exc x e1 => .exc x e1
  | .no => .no
/-- two clauses -/
def lcGo2 (ws ws1 : List Nat) (tg : D → Env → Option Env) (it1 : Itm) (tg1 : D → Env → Option Env) (elt : M D) : List D → Env → List D → Out (List D)
  | [], e, acc => .ok acc e
  | d :: ds, e, acc => match tg d (wipeE e ws) with
    | some e1 => match it1 e1 with
      | .ok es e2 => if ws1.all (plainAt e2) then match lcGo ws1 tg1 (pur true) elt es e2 acc with
        | .ok acc' e3 => lcGo2 ws ws1 tg it1 tg1 elt ds e3 acc'
        | _ => .no
        else .no
      | _ => .no
    | none => .no
def mLc2 (it : Itm) (ws ws1 : List Nat) (tg : D → Env → Option Env) (it1 : Itm) (tg1 : D → Env → Option Env) (elt : M D) : M O := fun e => match it e with
  | .ok ds e1 => if ws.all (plainAt e1) then match lcGo2 ws ws1 tg it1 tg1 elt ds e1 [] with
    | .ok acc e2 => .ok (.lst (vals acc)) (backE e1 (wipeE e2 ws) ws)
    | _ => .no
    else .no
  | .exc x e1 => .exc x e1
  | .no => .no

inductive Fl where
  | nx
  | ret (o : O)
  | brk
  | ct
def sSeq (a b : M Fl) : M Fl := bnd a fun f => match f with
  | .nx => b
  | f => pur f
def sSkip : M Fl := pur .nx
def sDrop (m : M D) : M Fl := bnd m fun _ => pur .nx
def sSet (pins : List Nat) (i : Nat) (m : M O) : M Fl := bnd m fun o e => match setL pins i o e with
  | some e' => .ok .nx e'
  | none => .no
def sTgt (tg : D → Env → Option Env) (m : M D) : M Fl := bnd m fun d e => match tg d e with
  | some e' => .ok .nx e'
  | none => .no
/-- a, b = x, y -/
def sPar (pins : List Nat) (i j : Nat) (m n : M O) : M Fl := bnd m fun o => bnd n fun o' e => match (setL pins i o e).bind (setL pins j o') with
  | some e' => .ok .nx e'
  | none => .no
def sAug (pins : List Nat) (i : Nat) (op : Operator) (m : M D) : M Fl := fun e => match e[i]? with
  | some (some (.val x)) => bnd m (fun y => bnd (opt (match op, x, y with
      | .Add, .int a, .int b => some (PyData.int (a + b))
      | .Sub, .int a, .int b => some (PyData.int (a - b))
      | .Mult, .int a, .int b => if mulOk a b then some (PyData.int (a * b)) else none
      | _, _, _ => none)) fun z e' => match setL pins i (.val z) e' with
    | some e'' => .ok .nx e''
    | none => .no) e
  | _ => .no
def appO (x : O) : O → Option O
  | .lst os => if decide (os.length < sizeLine) then some (.lst (os ++ [x])) else none
  | _ => none
/-- x.append(..) -/
def sApp (i : Nat) (m : M D) : M Fl := bnd m fun d e => match e[i]? with
  | some (some o) => match appO (.val d) o with
    | some o' => .ok .nx (e.set i (some o'))
    | none => .no
  | _ => .no
/-- x[..][..].append((.., [], ..)): what is appended may hold new lists of its own (none in the list: an empty list) -/
def ownTup (ds : List (Option D)) : O := .tup (ds.map fun d => match d with
  | some d => .val d
  | none => .lst [])
def sAppP (i : Nat) (p : List Int) (m : M O) : M Fl := fun e => match e[i]? with
  | some (some o) => match getP o p with
    | some _ => match m (e.set i none) with
      | .ok x e' => match setP (appO x) o p with
        | some o' => .ok .nx (e'.set i (some o'))
        | none => .no
      | .exc x e' => .exc x (e'.set i (some o))
      | .no => .no
    | none => .no
  | _ => .no
def mOwnT (ms : List (Option (M D))) : M O := bnd (mList (ms.map fun m => match m with
  | some m => bnd m fun d => pur (some d)
  | none => pur none)) fun ds => if lenOk ds.length then pur (ownTup ds) else bad
/-- x.extend(..) -/
def sExt (i : Nat) (m : M O) : M Fl := bnd m fun x e => match x with
  | .lst ys => match e[i]? with
    | some (some (.lst os)) => if decide (os.length + ys.length ≤ sizeLine) then .ok .nx (e.set i (some (.lst (os ++ ys)))) else .no
    | _ => .no
  | _ => .no
/-- x[k] = .. -/
def sSetIx (i : Nat) (k m : M D) : M Fl := bnd m fun d e => match e[i]? with
  | some (some _) => bnd k (fun y e' => match y, e'[i]? with
    | .int k, some (some (.lst os)) => match ixN os.length k with
      | some j => .ok .nx (e'.set i (some (.lst (os.set j (.val d)))))
      | none => .no
    | _, _ => .no) e
  | _ => .no
def sRet (m : M O) : M Fl := bnd m fun o => pur (.ret o)
def sRetN : M Fl := pur (.ret (.val .none))
def sRaise (c : Str) (m : Option (M D)) : M Fl := match m with
  | some m => bnd m fun d e => .exc ⟨c, some d⟩ e
  | none => fun e => .exc ⟨c, none⟩ e
def forGo (tg : D → Env → Option Env) (body : M Fl) : List D → M Fl
  | [], e => .ok .nx e
  | d :: ds, e => match tg d e with
    | some e1 => match body e1 with
      | .ok .nx e2 => forGo tg body ds e2
      | .ok .ct e2 => forGo tg body ds e2
      | .ok .brk e2 => .ok .nx e2
      | .ok (.ret o) e2 => .ok (.ret o) e2
      | .exc x e2 => .exc x e2
      | .no => .no
    | none => .no
def sFor (it : Itm) (tg : D → Env → Option Env) (body : M Fl) : M Fl := bnd it (forGo tg body)
def whileGo (t : M Bool) (body : M Fl) : Nat → M Fl
  | 0 => bad
  | n + 1 => fun e => match t e with
    | .ok true e1 => match body e1 with
      | .ok .nx e2 => whileGo t body n e2
      | .ok .ct e2 => whileGo t body n e2
      | .ok .brk e2 => .ok .nx e2
      | .ok (.ret o) e2 => .ok (.ret o) e2
      | .exc x e2 => .exc x e2
      | .no => .no
    | .ok false e1 => .ok .nx e1
    | .exc x e1 => .exc x e1
    | .no => .no
/-- try: body except C as n: x = n.f -/
def sTryAs (body : M Fl) (isC : Str → Option Bool) (i j : Nat) (pins : List Nat) : M Fl := fun e => match body e with
  | .exc x e' => match isC x.cls with
    | some true => match x.arg, setL pins j (.val (x.arg.getD .none)) (e'.set i none) with
      | some _, some e'' => if decide (i < e'.length) && !pins.contains i && decide (i ≠ j) then .ok .nx (e''.set i none) else .no
      | _, _ => .no
    | some false => .exc x e'
    | none => .no
  | r => r
end MP

set_option Elab.async false
set_option linter.all false
set_option maxRecDepth 100000
set_option maxHeartbeats 2000000
namespace MP
open PySem PySem.Spec PyProof.Rows L2

/-- the text's own exception classes: where each stands, its field -/
structure Tab where
  ca : Str → Option Addr
  fld : Str → Str
def XR (T : Tab) (K : PySem.W.Frag) (G H : Hp) (x : Exc) (cls : Value) (d : Option Addr) : Prop :=
  ∃ C, T.ca x.cls = some C ∧ cls = .ref C ∧ ∀ a, x.arg = some a → ∃ dd v, d = some dd ∧ H dd = some (.xd [(T.fld x.cls, v)]) ∧ Dp K G v a
/-- what is wanted of an end -/
def Aft {α : Type} (T : Tab) (K : PySem.W.Frag) (W : WX) (g : Gh) (ts : Tmp) (σ : L2.St) (G : Hp) (P : α → Env → Hp → Prop) (r : Out α) : Prop := match r with
  | .ok a e => P a e G
  | .exc x e => ∀ cls d G' H' fp', Ex G G' → Stt K g G' H' e σ ts fp' → XR T K G' H' x cls d → W cls d σ H'
  | .no => False
section
variable {α β : Type} {T : Tab} {K : PySem.W.Frag} {W : WX} {g : Gh} {ts : Tmp} {σ : L2.St} {G G1 : Hp} {P P' : α → Env → Hp → Prop} {r : Out α}
theorem Aft.mono (h : Aft T K W g ts σ G P r) (k : ∀ a e, P a e G → P' a e G) : Aft T K W g ts σ G P' r := by
  cases r with
  | ok a e => exact k a e h
  | exc x e => exact h
  | no => exact h
theorem Aft.up (h : Aft T K W g ts σ G P r) (x : Ex G G1) (k : ∀ a e, P a e G → P a e G1) : Aft T K W g ts σ G1 P r := by
  cases r with
  | ok a e => exact k a e h
  | exc y e => exact fun cls d G' H' fp' q => h cls d G' H' fp' (x.trans q)
  | no => exact h
theorem Aft.bnd {m : M α} {f : α → M β} {env : Env} {P : β → Env → Hp → Prop} (h : Aft T K W g ts σ G P (bnd m f env)) : Aft T K W g ts σ G (fun a e G => Aft T K W g ts σ G P (f a e)) (m env) := by
  unfold MP.bnd at h
  cases q : m env with
  | ok a e => rw [q] at h; exact h
  | exc x e => rw [q] at h; exact h
  | no => rw [q] at h; exact h
end
/-- posts -/
def PO (K : PySem.W.Frag) (g : Gh) (ts : Tmp) (σ : L2.St) (Q : VK) : O → Env → Hp → Prop := fun o e G => ∀ v G' H' fp', Ex G G' → Stt K g G' H' e σ (ts ++ [(o, v)]) fp' → Q v H'
def PD (K : PySem.W.Frag) (g : Gh) (ts : Tmp) (σ : L2.St) (Q : VK) : D → Env → Hp → Prop := fun d e G => ∀ v G' H' fp', Ex G G' → Stt K g G' H' e σ ts fp' → Dp K G' v d → Q v H'
def PB (K : PySem.W.Frag) (g : Gh) (ts : Tmp) (σ : L2.St) (Q : Bool → Hp → Prop) : Bool → Env → Hp → Prop := fun b e G => ∀ G' H' fp', Ex G G' → Stt K g G' H' e σ ts fp' → Q b H'
def PL (K : PySem.W.Frag) (g : Gh) (ts : Tmp) (σ : L2.St) (Q : List V → Hp → Prop) : List D → Env → Hp → Prop := fun ds e G => ∀ vs G' H' fp', Ex G G' → Stt K g G' H' e σ ts fp' → DpAll K G' vs ds → Q vs H'
section
variable {K : PySem.W.Frag} {g : Gh} {ts : Tmp} {σ : L2.St} {G G1 : Hp}
theorem PO.up {Q : VK} {o : O} {e : Env} (x : Ex G G1) (h : PO K g ts σ Q o e G) : PO K g ts σ Q o e G1 := fun v G' H' fp' q => h v G' H' fp' (x.trans q)
theorem PD.up {Q : VK} {o : D} {e : Env} (x : Ex G G1) (h : PD K g ts σ Q o e G) : PD K g ts σ Q o e G1 := fun v G' H' fp' q => h v G' H' fp' (x.trans q)
theorem PB.up {Q : Bool → Hp → Prop} {o : Bool} {e : Env} (x : Ex G G1) (h : PB K g ts σ Q o e G) : PB K g ts σ Q o e G1 := fun G' H' fp' q => h G' H' fp' (x.trans q)
theorem PL.up {Q : List V → Hp → Prop} {o : List D} {e : Env} (x : Ex G G1) (h : PL K g ts σ Q o e G) : PL K g ts σ Q o e G1 := fun v G' H' fp' q => h v G' H' fp' (x.trans q)
end
/-- readings -/
def tO (T : Tab) (K : PySem.W.Frag) (W : WX) (m : M O) : TE := fun σ H Q => ∃ g G env ts fp, Stt K g G H env σ ts fp ∧ Aft T K W g ts σ G (PO K g ts σ Q) (m env)
def tD (T : Tab) (K : PySem.W.Frag) (W : WX) (m : M D) : TE := fun σ H Q => ∃ g G env ts fp, Stt K g G H env σ ts fp ∧ Aft T K W g ts σ G (PD K g ts σ Q) (m env)
def tB (T : Tab) (K : PySem.W.Frag) (W : WX) (m : M Bool) : TT := fun σ H Q => ∃ g G env ts fp, Stt K g G H env σ ts fp ∧ Aft T K W g ts σ G (PB K g ts σ Q) (m env)
def tL (T : Tab) (K : PySem.W.Frag) (W : WX) (m : M (List D)) : TA := fun σ H Q => ∃ g G env ts fp, Stt K g G H env σ ts fp ∧ Aft T K W g ts σ G (PL K g ts σ Q) (m env)

theorem pe_imp {X : Cx} {e : Expr} {t t' : TE} (h : PE X e t) (k : ∀ σ H Q, t' σ H Q → t σ H Q) : PE X e t' := ⟨fun pins s σ H Q I q => h.run pins s σ H Q I (k σ H Q q)⟩
theorem pt_imp {X : Cx} {e : Expr} {t t' : TT} (h : PT X e t) (k : ∀ σ H Q, t' σ H Q → t σ H Q) : PT X e t' := ⟨fun pins s σ H Q I q => h.run pins s σ H Q I (k σ H Q q)⟩
theorem pw_imp {X : Cx} {e : Expr} {t t' : TT} (h : PW X e t) (k : ∀ σ H Q, t' σ H Q → t σ H Q) : PW X e t' := ⟨fun w pins s σ H Q I q => h.run w pins s σ H Q I (k σ H Q q)⟩
theorem pa_imp {X : Cx} {e : List Expr} {t t' : TA} (h : PA X e t) (k : ∀ σ H Q, t' σ H Q → t σ H Q) : PA X e t' := ⟨fun p pins s σ H Q I q => h.run p pins s σ H Q I (k σ H Q q)⟩
theorem ps_imp {X : Cx} {e : Stmt} {t t' : TS} (h : PS X e t) (k : ∀ D σ H, t' D σ H → t D σ H) : PS X e t' := ⟨fun pins s σ H D I q => h.run pins s σ H D I (k D σ H q)⟩
theorem pss_imp {X : Cx} {e : List Stmt} {t t' : TS} (h : PSs X e t) (k : ∀ D σ H, t' D σ H → t D σ H) : PSs X e t' := ⟨fun pins s σ H D I q => h.run pins s σ H D I (k D σ H q)⟩
theorem pg_imp {X : Cx} {e : Expr} {t t' : TG} (h : PG X e t) (k : ∀ v σ H Q, t' v σ H Q → t v σ H Q) : PG X e t' := ⟨fun pins s σ H v u Q I r q => h.run pins s σ H v u Q I r (k v σ H Q q)⟩
theorem op_imp {X : Cx} {f : Value → Value → Sem Value} {r r' : R2} (h : OpR X f r) (k : ∀ x y H Q, r' x y H Q → r x y H Q) : OpR X f r' := fun pins s σ H x y v u Q I rx ry q => h pins s σ H x y v u Q I rx ry (k x y H Q q)

section
variable {K : PySem.W.Frag} {g : Gh} {G H : Hp} {env : Env} {σ : L2.St} {ts : Tmp} {fp : Ix → List Addr}
theorem att_s (j : Nat) : att env σ ts (.s j) = match env[j]?, σ[j]? with
    | some (some o), some (some v) => some (o, v)
    | _, _ => none := rfl
theorem att_is {j : Nat} {o : O} {v : V} (h1 : env[j]? = some (some o)) (h2 : σ[j]? = some (some v)) : att env σ ts (.s j) = some (o, v) := by rw [att_s, h1, h2]
theorem att_of {j : Nat} {o : O} {v : V} (h : att env σ ts (.s j) = some (o, v)) : env[j]? = some (some o) ∧ σ[j]? = some (some v) := by
  rw [att_s] at h
  split at h
  · rename_i h1 h2; cases h; exact ⟨h1, h2⟩
  · cases h
theorem att_set_ne {i : Nat} {x : Option O} {ix : Ix} (h : ix ≠ .s i) : att (env.set i x) σ ts ix = att env σ ts ix := by
  cases ix with
  | s j =>
    have hj : i ≠ j := fun z => h (by rw [z])
    rw [att_s, att_s, List.getElem?_set_ne hj]
  | t j => rfl
theorem att_set_self {i : Nat} {x : Option O} {o : O} {v : V} (h : att (env.set i x) σ ts (.s i) = some (o, v)) : x = some o ∧ σ[i]? = some (some v) := by
  obtain ⟨h1, h2⟩ := att_of h
  refine ⟨?_, h2⟩
  rw [List.getElem?_set] at h1
  split at h1
  · split at h1
    · cases h1; rfl
    · cases h1
  · rename_i z; exact absurd rfl z
theorem has_set (S : Stt K g G H env σ ts fp) {i : Nat} {x : Option O} (h : x ≠ none → ∃ v : V, σ[i]? = some (some v)) (j : Nat) (o : O) (e : (env.set i x)[j]? = some (some o)) : ∃ v : V, σ[j]? = some (some v) := by
  rw [List.getElem?_set] at e
  split at e
  · rename_i z; subst z
    split at e
    · injection e with e; exact h (by rw [e]; simp)
    · cases e
  · exact S.has j o e
theorem Stt.freeze (S : Stt K g G H env σ ts fp) {i : Nat} {o : O} (h : env[i]? = some (some o)) : ∃ v G' fp', σ[i]? = some (some v) ∧ Ex G G' ∧ Dp K G' v o.frz ∧ Stt K g G' H (env.set i (some (.val o.frz))) σ ts fp' := by
  obtain ⟨v, hv, _⟩ := S.get h
  obtain ⟨G', x, dp, k⟩ := S.letgo (att_is (ts := ts) h hv)
  obtain ⟨fp', S'⟩ := k (env.set i (some (.val o.frz))) ts (by rw [List.length_set]) (has_set S fun _ => ⟨v, hv⟩) fun jx o' v' e => by
    by_cases q : jx = .s i
    · subst q
      obtain ⟨e1, e2⟩ := att_set_self e
      rw [hv] at e2; cases e2; cases e1
      exact .inr ⟨dp, _, rfl⟩
    · rw [att_set_ne q] at e; exact .inl ⟨q, e⟩
  exact ⟨v, G', fp', hv, x, dp, S'⟩
/-- the last temporary let go -/
theorem Stt.frzT (S : Stt K g G H env σ (ts ++ [(o, v)]) fp) : ∃ G' fp', Ex G G' ∧ Dp K G' v o.frz ∧ Stt K g G' H env σ ts fp' := by
  have e0 : att env σ (ts ++ [(o, v)]) (.t ts.length) = some (o, v) := by rw [att_push, if_pos rfl]
  obtain ⟨G', x, dp, k⟩ := S.letgo e0
  obtain ⟨fp', S'⟩ := k env ts rfl S.has fun jx o' v' e => .inl ⟨fun z => by
    subst z
    have e : ts[ts.length]? = some (o', v') := e
    simp at e, by
    rw [att_push]
    split
    · rename_i z; subst z
      have e : ts[ts.length]? = some (o', v') := e
      simp at e
    · exact e⟩
  exact ⟨G', fp', x, dp, S'⟩
end

section
variable {X : Cx} {T : Tab} {W : WX}
theorem se_var {i : Nat} {x : Str} {pos : Pos} (hN : X.N[i]? = some x) (hv : Vis X.env.scope x) (hd : (x == ("__debug__" : Str)) = false) (hcd : (x == ("__classdict__" : Str)) = false) : PE X (.Name x pos) (tO T X.K W (mVar i)) := by
  refine pe_imp (pe_var hN hv hd hcd) fun σ H Q ⟨g, G, env, ts, fp, S, h⟩ => ?_
  unfold mVar at h
  cases e : env[i]? with
  | none => rw [e] at h; exact h.elim
  | some oo =>
    cases oo with
    | none => rw [e] at h; exact h.elim
    | some o =>
      cases o with
      | val d =>
        rw [e] at h
        obtain ⟨v, hv, r⟩ := S.get e
        obtain ⟨fp', S'⟩ := S.pushVal (ro_val r).2
        exact ⟨v, hv, h v G H fp' (Ex.refl G) S'⟩
      | lst os =>
        rw [e] at h
        obtain ⟨v, G', fp', hv, x, dp, S'⟩ := S.freeze e
        obtain ⟨fp2, S2⟩ := S'.pushVal dp
        exact ⟨v, hv, h v G' H fp2 x S2⟩
      | tup os =>
        rw [e] at h
        obtain ⟨v, G', fp', hv, x, dp, S'⟩ := S.freeze e
        obtain ⟨fp2, S2⟩ := S'.pushVal dp
        exact ⟨v, hv, h v G' H fp2 x S2⟩
def swp (i n : Nat) (ix : Ix) : Ix := if ix = .s i then .t n else if ix = .t n then .s i else ix
theorem swp_inj (i n : Nat) (ix jx : Ix) (h : swp i n ix = swp i n jx) : ix = jx := by
  unfold swp at h
  split at h <;> split at h <;> (try split at h) <;> (try split at h) <;> simp_all
theorem se_take {i : Nat} {x : Str} {pos : Pos} (hN : X.N[i]? = some x) (hv : Vis X.env.scope x) (hd : (x == ("__debug__" : Str)) = false) (hcd : (x == ("__classdict__" : Str)) = false) : PE X (.Name x pos) (tO T X.K W (mTake i)) := by
  refine pe_imp (pe_var hN hv hd hcd) fun σ H Q ⟨g, G, env, ts, fp, S, h⟩ => ?_
  unfold mTake at h
  cases e : env[i]? with
  | none => rw [e] at h; exact h.elim
  | some oo =>
    cases oo with
    | none => rw [e] at h; exact h.elim
    | some o =>
      rw [e] at h
      obtain ⟨v, hv, r⟩ := S.get e
      refine ⟨v, hv, h v G H _ (Ex.refl G) (S.re (swp i ts.length) (swp_inj i ts.length) (by rw [List.length_set]; exact S.len) (has_set S fun z => absurd rfl z) fun ix o' v' q => ?_)⟩
      rw [att_push] at q
      by_cases h1 : ix = .t ts.length
      · rw [if_pos h1] at q
        subst h1
        injection q with q; injection q with q1 q2; subst q1; subst q2
        have : swp i ts.length (.t ts.length) = .s i := by unfold swp; rw [if_neg (by intro z; cases z), if_pos rfl]
        rw [this]; exact att_is e hv
      · rw [if_neg h1] at q
        by_cases h2 : ix = .s i
        · subst h2; obtain ⟨z, _⟩ := att_set_self q; cases z
        · rw [att_set_ne h2] at q
          unfold swp
          rw [if_neg h2, if_neg h1]; exact q
theorem se_c {e : Expr} {v : V} {d : D} (h : PE X e (tC v)) (hd : ∀ G, Dp X.K G v d) : PE X e (tO T X.K W (mC d)) :=
  pe_imp h fun σ H Q ⟨g, G, env, ts, fp, S, h⟩ => by
    obtain ⟨fp', S'⟩ := S.pushVal (hd G)
    exact h v G H fp' (Ex.refl G) S'
theorem se_fz {e : Expr} {m : M O} (h : PE X e (tO T X.K W m)) : PE X e (tD T X.K W (fz m)) :=
  pe_imp h fun σ H Q ⟨g, G, env, ts, fp, S, h⟩ => ⟨g, G, env, ts, fp, S, h.bnd.mono fun o e1 k v G' H' fp' x S1 => by
    obtain ⟨G2, fp2, x2, dp, S2⟩ := S1.frzT
    exact k v G2 H' fp2 (x.trans x2) S2 dp⟩

/-- what a built-in thing made, wanted by Q -/
def RR (K : PySem.W.Frag) (G H : Hp) (r : Res) (Q : VK) : Prop := match r with
  | .val d => ∀ z G' H', Grow G H G' H' → Dp K G' z d → Q z H'
  | .new ds => ∀ p vs G' H', Grow G H G' H' → H p = none → G' p = none → H' p = some (.lst vs) → DpAll K G' vs ds → Q (.ref p) H'
theorem rr_of {K : PySem.W.Frag} {g : Gh} {G H : Hp} {env : Env} {σ : L2.St} {ts : Tmp} {fp : Ix → List Addr} {Q : VK} {r : Res} (S : Stt K g G H env σ ts fp) (h : PO K g ts σ Q r.o env G) : RR K G H r Q := by
  cases r with
  | val d =>
    intro z G' H' w dp
    obtain ⟨fp', S'⟩ := (S.grow w).pushVal dp
    exact h z G' H' fp' w.gg S'
  | new ds =>
    intro p vs G' H' w hp hg hl hd
    obtain ⟨fp', S'⟩ := S.pushNew w hp hg hl hd
    exact h (.ref p) G' H' fp' w.gg S'
theorem rr_res {T : Tab} {K : PySem.W.Frag} {W : WX} {g : Gh} {G H : Hp} {env : Env} {σ : L2.St} {ts : Tmp} {fp : Ix → List Addr} {Q : VK} {r : Option Res} (S : Stt K g G H env σ ts fp) (h : Aft T K W g ts σ G (PO K g ts σ Q) (resM r env)) :
    ∃ r', r = some r' ∧ RR K G H r' Q := by
  cases r with
  | none => exact h.elim
  | some r => exact ⟨r, rfl, rr_of S h⟩
/-- a value that is shared already, or has no place -/
theorem RR.same {K : PySem.W.Frag} {G H : Hp} {d : D} {z : V} {Q : VK} (e : Ex G H) (h : RR K G H (.val d) Q) (dp : Dp K G z d) : Q z H := h z G H (Grow.refl e) dp
theorem RR.tup {K : PySem.W.Frag} {G H : Hp} {ds : List D} {vs : List V} {p : Addr} {Q : VK} (e : Ex G H) (h : RR K G H (.val (.tuple ds)) Q) (hd : DpAll K G vs ds) (hp : H p = none) : Q (.ref p) (upd H p (.tup vs)) :=
  h (.ref p) _ _ (Grow.shared e hp) (.tup (.inl (.inl upd_same)) (Dpms (Ex.new (e.none hp)) hd))
theorem RR.lst {K : PySem.W.Frag} {G H : Hp} {ds : List D} {vs : List V} {p : Addr} {Q : VK} (e : Ex G H) (h : RR K G H (.new ds) Q) (hd : DpAll K G vs ds) (hp : H p = none) : Q (.ref p) (upd H p (.lst vs)) :=
  h p vs _ _ (Grow.own e hp) hp (e.none hp) upd_same hd
def rP2 (K : PySem.W.Frag) (f : D → D → Option Res) : R2 := fun x y H Q => ∃ G d e r, Ex G H ∧ Dp K G x d ∧ Dp K G y e ∧ f d e = some r ∧ RR K G H r Q
theorem se_op2 {f : D → D → Option Res} {a b : Expr} {e : Expr} {ma mb : M D} (h : PE X e (tOp (rP2 X.K f) (tD T X.K W ma) (tD T X.K W mb))) : PE X e (tO T X.K W (bnd ma fun x => bnd mb fun y => resM (f x y))) :=
  pe_imp h fun σ H Q ⟨g, G, env, ts, fp, S, h⟩ => ⟨g, G, env, ts, fp, S, h.bnd.mono fun d e1 k v G1 H1 fp1 x S1 dp => ⟨g, G1, e1, ts, fp1, S1, (k.up x fun _ _ => PO.up x).bnd.mono fun d2 e2 k2 v2 G2 H2 fp2 x2 S2 dp2 => by
    obtain ⟨r, er, rr⟩ := rr_res S2 (k2.up x2 fun _ _ => PO.up x2)
    exact ⟨G2, d, d2, r, S2.sub, Dpm x2 dp, dp2, er, rr⟩⟩⟩
theorem se_bin {a b : Expr} {pos : Pos} {op : Operator} {ma mb : M D} (ho : OpR X (binaryOp op) (rP2 X.K (binR op))) (ha : PE X a (tD T X.K W ma)) (hb : PE X b (tD T X.K W mb)) : PE X (.BinOp a op b pos) (tO T X.K W (mBin op ma mb)) :=
  se_op2 (a := a) (b := b) (pe_op ho ha hb)
end
end MP

set_option Elab.async false
set_option linter.all false
set_option maxRecDepth 100000
set_option maxHeartbeats 4000000
namespace MP
open PySem PySem.Spec PyProof.Rows L2

section
variable {X : Cx}
/-- lists of any kind, one behind the other -/
def rCatL (K : PySem.W.Frag) : R2 := fun x y H Q => ∃ a b xs ys, x = .ref a ∧ y = .ref b ∧ SqL K H a xs ∧ SqL K H b ys ∧ xs.length + ys.length ≤ sizeLine ∧ ∀ p, H p = none → Q (.ref p) (upd H p (.lst (xs ++ ys)))
theorem op_catL : OpR X (binaryOp .Add) (rCatL X.K) := by
  intro pins s σ H x y v u Q I rx ry h
  obtain ⟨a, b, xs, ys, rfl, rfl, ha, hb, hz, q⟩ := h
  cases rx; cases ry
  obtain ⟨its1, r1, ⟨o1, n1, e1, c1, _, d1⟩, _⟩ := I.list ha
  obtain ⟨its2, r2, ⟨o2, n2, e2, c2, _, d2⟩, _⟩ := I.list hb
  obtain ⟨cl1, dd1, dt1, sl1⟩ := o1
  obtain ⟨cl2, dd2, dt2, sl2⟩ := o2
  simp only at c1 d1 c2 d2
  subst c1 d1 c2 d2
  have l1 := r1.length
  have l2 := r2.length
  refine concat_meets ⟨_, e1, rfl⟩ ⟨_, e2, rfl⟩ noFill_list_add seq_list_add PySem.F.slot_list_add PySem.F.entry_list_add (PySem.F.args_list_add_2 _ _)
    (list_addW a b its1.toArray its2.toArray n1 n2 dd1 dd2 sl1 sl2 (by rw [List.size_toArray, List.size_toArray]; omega)) ⟨e1, e2, ?_⟩
  have ea : its1.toArray ++ its2.toArray = (its1 ++ its2).toArray := by simp
  rw [ea]
  exact ⟨.ref _, _, I.lnew (t' := s.toks) (r1.append r2) (by rw [List.length_append]; omega), rfl, q _ I.fresh⟩

theorem lenOk_of {n : Nat} (h : lenOk n = true) : n ≤ sizeLine := of_decide_eq_true h
theorem op_bin (op : Operator) : OpR X (binaryOp op) (rP2 X.K (binR op)) := by
  intro pins s σ H x y v u Q I rx ry h
  obtain ⟨G, d, e, r, sub, hd, he, hr, q⟩ := h
  unfold binR at hr
  split at hr
  · cases hd; cases he; cases hr
    exact op_add pins s σ H _ _ v u Q I rx ry ⟨_, _, rfl, rfl, q.same sub (.int _)⟩
  · cases hd; cases he
    split at hr
    · rename_i hz; cases hr
      exact op_add_str pins s σ H _ _ v u Q I rx ry ⟨_, _, rfl, rfl, lenOk_of hz, q.same sub (.str _)⟩
    · cases hr
  · split at hr
    · rename_i hz; cases hr
      cases hd with
      | lst h1 a1 => cases he with
        | lst h2 a2 => exact op_catL pins s σ H _ _ v u Q I rx ry ⟨_, _, _, _, rfl, rfl, sub.sql h1, sub.sql h2, by rw [dps_len a1, dps_len a2]; exact lenOk_of hz, fun p hp => q.lst sub (dps_app a1 a2) hp⟩
    · cases hr
  · split at hr
    · rename_i hz; cases hr
      cases hd with
      | tup h1 a1 => cases he with
        | tup h2 a2 =>
          refine op_catA pins s σ H _ _ v u Q I rx ry ⟨_, _, _, _, rfl, rfl, sub.sqt h1, sub.sqt h2, by rw [dps_len a1, dps_len a2]; exact lenOk_of hz, fun z => ?_, fun _ z => ?_, fun _ _ p hp => q.tup sub (dps_app a1 a2) hp⟩
          · subst z; cases a1; exact q.same sub (.tup h2 a2)
          · subst z; cases a2; rw [List.append_nil] at q; exact q.same sub (.tup h1 a1)
    · cases hr
  · cases hd; cases he; cases hr
    exact op_sub pins s σ H _ _ v u Q I rx ry ⟨_, _, rfl, rfl, q.same sub (.int _)⟩
  · cases hd; cases he
    split at hr
    · rename_i hz; cases hr
      refine op_mul pins s σ H _ _ v u Q I rx ry ⟨_, _, rfl, rfl, ?_, q.same sub (.int _)⟩
      unfold mulOk at hz
      simp only [Bool.or_eq_true, Bool.and_eq_true, decide_eq_true_eq] at hz
      exact hz
    · cases hr
  · cases hd; cases he
    split at hr
    · rename_i hz; cases hr
      simp only [Bool.and_eq_true, decide_eq_true_eq] at hz
      exact op_fdiv pins s σ H _ _ v u Q I rx ry ⟨_, _, rfl, rfl, hz, q.same sub (.int _)⟩
    · cases hr
  · cases hd; cases he
    split at hr
    · rename_i hz; cases hr
      exact op_mod pins s σ H _ _ v u Q I rx ry ⟨_, _, rfl, rfl, of_decide_eq_true hz, q.same sub (.int _)⟩
    · cases hr
  · cases hd; cases he
    split at hr
    · rename_i hz; cases hr
      simp only [Bool.and_eq_true, decide_eq_true_eq] at hz
      exact op_pow pins s σ H _ _ v u Q I rx ry ⟨_, _, rfl, rfl, ⟨hz.1.1, hz.1.2, hz.2⟩, q.same sub (.int _)⟩
    · cases hr
  · cases hr

/-- a comparison's answer, wanted by Q -/
def rC2 (K : PySem.W.Frag) (f : D → D → Option Bool) : R2 := fun x y H Q => ∃ G d e b, Ex G H ∧ Dp K G x d ∧ Dp K G y e ∧ f d e = some b ∧ Q (.bl b) H
theorem ints_of {K : PySem.W.Frag} {G : Hp} : ∀ {ds : List D} {ns : List Int} {vs : List V}, intsD ds = some ns → DpAll K G vs ds → vs = ns.map V.int ∧ ds = ns.map PyData.int
  | [], _, _, h, a => by cases h; cases a; exact ⟨rfl, rfl⟩
  | .int i :: r, ns, _, h, a => by
    cases a with
    | cons a1 a2 =>
      cases a1
      have h : (intsD r).map (i :: ·) = some ns := h
      cases q : intsD r with
      | none => rw [q] at h; cases h
      | some ms =>
        rw [q] at h; cases h
        obtain ⟨e1, e2⟩ := ints_of q a2
        exact ⟨by rw [e1]; rfl, by rw [e2]; rfl⟩
  | .none :: _, _, _, h, _ => by cases h
  | .bool _ :: _, _, _, h, _ => by cases h
  | .str _ :: _, _, _, h, _ => by cases h
  | .list _ :: _, _, _, h, _ => by cases h
  | .tuple _ :: _, _, _, h, _ => by cases h
  | .dict _ :: _, _, _, h, _ => by cases h
theorem bools_of {K : PySem.W.Frag} {G : Hp} : ∀ {ds : List D} {ns : List Bool} {vs : List V}, boolsD ds = some ns → DpAll K G vs ds → vs = ns.map V.bl
  | [], _, _, h, a => by cases h; cases a; rfl
  | .bool i :: r, ns, _, h, a => by
    cases a with
    | cons a1 a2 =>
      cases a1
      have h : (boolsD r).map (i :: ·) = some ns := h
      cases q : boolsD r with
      | none => rw [q] at h; cases h
      | some ms =>
        rw [q] at h; cases h
        rw [bools_of q a2]; rfl
  | .none :: _, _, _, h, _ => by cases h
  | .int _ :: _, _, _, h, _ => by cases h
  | .str _ :: _, _, _, h, _ => by cases h
  | .list _ :: _, _, _, h, _ => by cases h
  | .tuple _ :: _, _, _, h, _ => by cases h
  | .dict _ :: _, _, _, h, _ => by cases h
theorem strs_of {K : PySem.W.Frag} {G : Hp} : ∀ {ds : List D} {ns : List Str} {vs : List V}, strsD ds = some ns → DpAll K G vs ds → vs = ns.map V.str
  | [], _, _, h, a => by cases h; cases a; rfl
  | .str i :: r, ns, _, h, a => by
    cases a with
    | cons a1 a2 =>
      cases a1
      have h : (strsD r).map (i :: ·) = some ns := h
      cases q : strsD r with
      | none => rw [q] at h; cases h
      | some ms =>
        rw [q] at h; cases h
        rw [strs_of q a2]; rfl
  | .none :: _, _, _, h, _ => by cases h
  | .bool _ :: _, _, _, h, _ => by cases h
  | .int _ :: _, _, _, h, _ => by cases h
  | .list _ :: _, _, _, h, _ => by cases h
  | .tuple _ :: _, _, _, h, _ => by cases h
  | .dict _ :: _, _, _, h, _ => by cases h
theorem dVi {i j : Int} : decide (V.int i = V.int j) = decide (i = j) := by simp
theorem dVs {i j : Str} : decide (V.str i = V.str j) = decide (i = j) := by simp
theorem eq_both (hu : X.A.units + 64 < cLine) : OpR X (compareOp .Eq) (rC2 X.K eqR) ∧ OpR X (compareOp .NotEq) (rC2 X.K fun x y => (eqR x y).map (!·)) := by
  refine ⟨fun pins s σ H x y v u Q I rx ry ⟨G, d, e, b, sub, hd, he, hb, q⟩ => ?_, fun pins s σ H x y v u Q I rx ry ⟨G, d, e, b, sub, hd, he, hb, q⟩ => ?_⟩
  · unfold eqR at hb
    split at hb
    · cases hd; cases he; cases hb
      exact op_eq pins s σ H _ _ v u Q I rx ry ⟨rfl, by rw [dVi]; exact q⟩
    · cases hd; cases he; cases hb
      exact op_eq pins s σ H _ _ v u Q I rx ry ⟨rfl, by rw [dVs]; exact q⟩
    · split at hb
      · rename_i hz; cases hb
        simp only [Bool.and_eq_true] at hz
        exact op_eqD hu pins s σ H _ _ v u Q I rx ry ⟨d, e, Dpm sub hd, Dpm sub he, hz.1, hz.2, q⟩
      · cases hb
  · have hb : (eqR d e).map (!·) = some b := hb
    cases q0 : eqR d e with
    | none => rw [q0] at hb; cases hb
    | some c =>
      rw [q0] at hb; cases hb
      unfold eqR at q0
      split at q0
      · cases hd; cases he; cases q0
        exact op_ne pins s σ H _ _ v u Q I rx ry ⟨rfl, by rw [dVi]; exact q⟩
      · cases hd; cases he; cases q0
        exact op_ne pins s σ H _ _ v u Q I rx ry ⟨rfl, by rw [dVs]; exact q⟩
      · split at q0
        · rename_i hz; cases q0
          simp only [Bool.and_eq_true] at hz
          exact op_neD hu pins s σ H _ _ v u Q I rx ry ⟨d, e, Dpm sub hd, Dpm sub he, hz.1, hz.2, q⟩
        · cases q0
theorem in_both (hu : X.A.units + 65 < cLine) : OpR X (compareOp .In) (rC2 X.K inR) ∧ OpR X (compareOp .NotIn) (rC2 X.K fun x y => (inR x y).map (!·)) := by
  refine ⟨fun pins s σ H x y v u Q I rx ry ⟨G, d, e, b, sub, hd, he, hb, q⟩ => ?_, fun pins s σ H x y v u Q I rx ry ⟨G, d, e, b, sub, hd, he, hb, q⟩ => ?_⟩
  · unfold inR at hb
    split at hb
    · split at hb
      · split at hb
        · rename_i c _ cc hc
          cases hd; cases he; cases hb
          have e : c = ⟨#[cc]⟩ := Str.ext' (Array.toList_inj.mp (by rw [hc]))
          subst e
          exact op_in_sign pins s σ H _ _ v u Q I rx ry ⟨_, _, rfl, rfl, q⟩
        · cases hb
      · cases hb
    · split at hb
      · rename_i hz; cases hb
        simp only [Bool.and_eq_true] at hz
        exact op_inD hu pins s σ H _ _ v u Q I rx ry ⟨_, _, Dpm sub hd, Dpm sub he, hz.1, hz.2, q⟩
      · cases hb
    · cases hb
  · have hb : (inR d e).map (!·) = some b := hb
    cases q0 : inR d e with
    | none => rw [q0] at hb; cases hb
    | some c =>
      rw [q0] at hb; cases hb
      unfold inR at q0
      split at q0
      · split at q0
        · split at q0
          · rename_i c _ cc hc
            cases hd; cases he; cases q0
            have e : c = ⟨#[cc]⟩ := Str.ext' (Array.toList_inj.mp (by rw [hc]))
            subst e
            exact op_notIn_sign pins s σ H _ _ v u Q I rx ry ⟨_, _, rfl, rfl, q⟩
          · cases q0
        · cases q0
      · split at q0
        · rename_i hz; cases q0
          simp only [Bool.and_eq_true] at hz
          exact op_notInD hu pins s σ H _ _ v u Q I rx ry ⟨_, _, Dpm sub hd, Dpm sub he, hz.1, hz.2, q⟩
        · cases q0
      · cases q0
theorem op_cmp (hu : X.A.units + 65 < cLine) (op : CmpOp) : OpR X (compareOp op) (rC2 X.K (cmpR op)) := by
  intro pins s σ H x y v u Q I rx ry h
  obtain ⟨G, d, e, b, sub, hd, he, hb, q⟩ := h
  unfold cmpR at hb
  split at hb
  · exact (eq_both (by omega)).1 pins s σ H x y v u Q I rx ry ⟨G, d, e, b, sub, hd, he, hb, q⟩
  · exact (eq_both (by omega)).2 pins s σ H x y v u Q I rx ry ⟨G, d, e, b, sub, hd, he, hb, q⟩
  · cases hd; cases he; cases hb; exact op_lt pins s σ H _ _ v u Q I rx ry ⟨_, _, rfl, rfl, q⟩
  · cases hd; cases he; cases hb; exact op_le pins s σ H _ _ v u Q I rx ry ⟨_, _, rfl, rfl, q⟩
  · cases hd; cases he; cases hb; exact op_gt pins s σ H _ _ v u Q I rx ry ⟨_, _, rfl, rfl, q⟩
  · cases hd; cases he; cases hb; exact op_ge pins s σ H _ _ v u Q I rx ry ⟨_, _, rfl, rfl, q⟩
  · split at hb
    · rename_i h1 h2; cases hb
      cases hd with
      | tup k1 a1 => cases he with
        | tup k2 a2 =>
          obtain ⟨rfl, _⟩ := ints_of h1 a1
          obtain ⟨rfl, _⟩ := ints_of h2 a2
          exact op_ltT (by omega) pins s σ H _ _ v u Q I rx ry ⟨_, _, _, _, rfl, rfl, sub.sqt k1, sub.sqt k2, q⟩
    · cases hb
  · exact (in_both hu).1 pins s σ H x y v u Q I rx ry ⟨G, d, e, b, sub, hd, he, hb, q⟩
  · exact (in_both hu).2 pins s σ H x y v u Q I rx ry ⟨G, d, e, b, sub, hd, he, hb, q⟩
  · cases he
    refine op_isN pins s σ H _ _ v u Q I rx ry ⟨rfl, ?_⟩
    split at hb
    · cases hd; cases hb; exact q
    · rename_i hn; cases hb
      rw [decide_eq_false (fun z => by subst z; cases hd; exact hn rfl)]; exact q
  · cases he
    refine op_notN pins s σ H _ _ v u Q I rx ry ⟨rfl, ?_⟩
    split at hb
    · cases hd; cases hb; exact q
    · rename_i hn; cases hb
      rw [decide_eq_false (fun z => by subst z; cases hd; exact hn rfl)]; exact q
  · cases hb
end
end MP

set_option Elab.async false
set_option linter.all false
set_option maxRecDepth 100000
set_option maxHeartbeats 4000000
namespace MP
open PySem PySem.Spec PyProof.Rows L2

section
variable {X : Cx} {T : Tab} {W : WX} {a b c e : Expr} {pos : Pos} {ma mb mc : M D} {m n : M O} {t u : M Bool}
theorem st_cmp {op : CmpOp} (hu : X.A.units + 65 < cLine) (ha : PE X a (tD T X.K W ma)) (hb : PE X b (tD T X.K W mb)) (hm : behindInMarks op b = false) : PT X (.Compare a [op] [b] pos) (tB T X.K W (mCmp op ma mb)) :=
  pt_imp (pt_cmpR (op_cmp hu op) ha hb hm) fun σ H Q ⟨g, G, env, ts, fp, S, h⟩ => ⟨g, G, env, ts, fp, S, h.bnd.mono fun d e1 k v G1 H1 fp1 x S1 dp => ⟨g, G1, e1, ts, fp1, S1, (k.up x fun _ _ => PB.up x).bnd.mono fun d2 e2 k2 v2 G2 H2 fp2 x2 S2 dp2 => by
    cases q : cmpR op d d2 with
    | none => rw [q] at k2; exact k2.elim
    | some r =>
      rw [q] at k2
      exact ⟨G2, d, d2, r, S2.sub, Dpm x2 dp, dp2, q, r, rfl, k2 G2 H2 fp2 x2 S2⟩⟩⟩
theorem se_cmp {op : CmpOp} (hu : X.A.units + 65 < cLine) (ha : PE X a (tD T X.K W ma)) (hb : PE X b (tD T X.K W mb)) (hm : behindInMarks op b = false) : PE X (.Compare a [op] [b] pos) (tO T X.K W (mB (mCmp op ma mb))) :=
  pe_imp (pe_cmpR (op_cmp hu op) ha hb hm) fun σ H Q ⟨g, G, env, ts, fp, S, h⟩ => ⟨g, G, env, ts, fp, S, h.bnd.bnd.mono fun d e1 k v G1 H1 fp1 x S1 dp => ⟨g, G1, e1, ts, fp1, S1, (k.up x fun _ _ z => Aft.up z x fun _ _ => PO.up x).bnd.mono fun d2 e2 k2 v2 G2 H2 fp2 x2 S2 dp2 => by
    cases q : cmpR op d d2 with
    | none => rw [q] at k2; exact k2.elim
    | some r =>
      rw [q] at k2
      have k2 : PO X.K g ts σ Q (.val (.bool r)) e2 G1 := k2
      obtain ⟨fp3, S3⟩ := S2.pushVal (d := .bool r) (.bl r)
      exact ⟨G2, d, d2, r, S2.sub, Dpm x2 dp, dp2, q, k2 _ G2 H2 fp3 x2 S3⟩⟩⟩
theorem st_chain {op op' : CmpOp} (hu : X.A.units + 65 < cLine) (ha : PE X a (tD T X.K W ma)) (hb : PE X b (tD T X.K W mb)) (hc : PE X c (tD T X.K W mc)) (h2 : behindInMarks op' c = false) :
    PT X (.Compare a [op, op'] [b, c] pos) (tB T X.K W (mChain op op' ma mb mc)) :=
  pt_imp (pt_chain (op_cmp hu op) (op_cmp hu op') ha hb hc (show lastMarks [op, op'] [b, c] = false from h2)) fun σ H Q ⟨g, G, env, ts, fp, S, h⟩ => ⟨g, G, env, ts, fp, S, h.bnd.mono fun d e1 k v G1 H1 fp1 x S1 dp => ⟨g, G1, e1, ts, fp1, S1, (k.up x fun _ _ => PB.up x).bnd.mono fun d2 e2 k2 v2 G2 H2 fp2 x2 S2 dp2 => by
    cases q : cmpR op d d2 with
    | none => rw [q] at k2; exact k2.elim
    | some r =>
      rw [q] at k2
      refine ⟨G2, d, d2, r, S2.sub, Dpm x2 dp, dp2, q, r, rfl, ?_⟩
      cases r with
      | false =>
        have k2 : PB X.K g ts σ Q false e2 G1 := k2
        exact iteF ⟨_, rfl, k2 G2 H2 fp2 x2 S2⟩
      | true =>
        have k2 : Aft T X.K W g ts σ G1 (PB X.K g ts σ Q) (bnd mc (fun z => opt (cmpR op' d2 z)) e2) := k2
        refine iteT ⟨g, G2, e2, ts, fp2, S2, (k2.up x2 fun _ _ => PB.up x2).bnd.mono fun d3 e3 k3 v3 G3 H3 fp3 x3 S3 dp3 => ?_⟩
        cases q3 : cmpR op' d2 d3 with
        | none => rw [q3] at k3; exact k3.elim
        | some r3 =>
          rw [q3] at k3
          exact ⟨G3, d2, d3, r3, S3.sub, Dpm x3 dp2, dp3, q3, r3, rfl, k3 G3 H3 fp3 x3 S3⟩⟩⟩
theorem se_chain {op op' : CmpOp} (hu : X.A.units + 65 < cLine) (ha : PE X a (tD T X.K W ma)) (hb : PE X b (tD T X.K W mb)) (hc : PE X c (tD T X.K W mc)) (h2 : behindInMarks op' c = false) :
    PE X (.Compare a [op, op'] [b, c] pos) (tO T X.K W (mB (mChain op op' ma mb mc))) :=
  pe_imp (pe_chain (op_cmp hu op) (op_cmp hu op') ha hb hc (show lastMarks [op, op'] [b, c] = false from h2)) fun σ H Q ⟨g, G, env, ts, fp, S, h⟩ => ⟨g, G, env, ts, fp, S, h.bnd.bnd.mono fun d e1 k v G1 H1 fp1 x S1 dp => ⟨g, G1, e1, ts, fp1, S1, (k.up x fun _ _ z => Aft.up z x fun _ _ => PO.up x).bnd.mono fun d2 e2 k2 v2 G2 H2 fp2 x2 S2 dp2 => by
    have put : ∀ {r : Bool} {e : Env} {G' G3 H3 : Hp} {fp3 : Ix → List Addr}, PO X.K g ts σ Q (.val (.bool r)) e G' → Ex G' G3 → Stt X.K g G3 H3 e σ ts fp3 → Q (.bl r) H3 := fun {r e G' G3 H3 fp3} k x S => by
      obtain ⟨fp4, S4⟩ := S.pushVal (d := .bool r) (.bl r)
      exact k _ G3 H3 fp4 x S4
    cases q : cmpR op d d2 with
    | none => rw [q] at k2; exact k2.elim
    | some r =>
      rw [q] at k2
      refine ⟨G2, d, d2, r, S2.sub, Dpm x2 dp, dp2, q, r, rfl, ?_⟩
      cases r with
      | false =>
        have k2 : PO X.K g ts σ Q (.val (.bool false)) e2 G1 := k2
        exact iteF (put k2 x2 S2)
      | true =>
        have k2 : Aft T X.K W g ts σ G1 (fun b e G => Aft T X.K W g ts σ G (PO X.K g ts σ Q) (pur (O.val (.bool b)) e)) (bnd mc (fun z => opt (cmpR op' d2 z)) e2) := k2
        refine iteT ⟨g, G2, e2, ts, fp2, S2, (k2.up x2 fun _ _ z => Aft.up z x2 fun _ _ => PO.up x2).bnd.mono fun d3 e3 k3 v3 G3 H3 fp3 x3 S3 dp3 => ?_⟩
        cases q3 : cmpR op' d2 d3 with
        | none => rw [q3] at k3; exact k3.elim
        | some r3 =>
          rw [q3] at k3
          exact ⟨G3, d2, d3, r3, S3.sub, Dpm x3 dp2, dp3, q3, put (r := r3) k3 x3 S3⟩⟩⟩
/-- a test whose value is a truth, as a value -/
theorem st_tru (ha : PE X a (tD T X.K W ma)) (he : ∀ whole, isTrue a X.env whole = (do let v ← whole; standAt a.pos; holding [v] (truthy v))) : PT X a (tB T X.K W (mTru ma)) :=
  pt_imp (pt_truth ha he) fun σ H Q ⟨g, G, env, ts, fp, S, h⟩ => ⟨g, G, env, ts, fp, S, h.bnd.mono fun d e1 k v G1 H1 fp1 x S1 dp => by
    cases q : truR d with
    | none => rw [q] at k; exact k.elim
    | some r =>
      rw [q] at k
      refine ⟨r, ?_, k G1 H1 fp1 x S1⟩
      cases d with
      | none => cases dp; cases q; rfl
      | bool b => cases dp; cases q; rfl
      | int i => cases dp; cases q; rfl
      | str z => cases q
      | list ds =>
        cases dp with
        | lst h1 h2 => cases q; refine .inl ⟨_, S1.sub.sql h1, ?_⟩; have := dps_len h2; cases h2 <;> rfl
      | tuple ds =>
        cases dp with
        | tup h1 h2 => cases q; refine .inr (.inl ⟨_, S1.sub.sqt h1, ?_⟩); cases h2 <;> rfl
      | dict _ => cases dp⟩
theorem aft_ite {T : Tab} {K : PySem.W.Frag} {W : WX} {g : Gh} {ts : Tmp} {σ : L2.St} {G : Hp} {α : Type} {P : α → Env → Hp → Prop} {c : Bool} {x y : M α} {e : Env} (h : Aft T K W g ts σ G P ((if c then x else y) e)) :
    if c = true then Aft T K W g ts σ G P (x e) else Aft T K W g ts σ G P (y e) := by
  cases c with
  | true => exact h
  | false => exact h
theorem st_and1 (ha : PT X a (tB T X.K W t)) : PW X (.BoolOp .And [a] pos) (tB T X.K W t) := pw_and1 ha
theorem st_or1 (ha : PT X a (tB T X.K W t)) : PW X (.BoolOp .Or [a] pos) (tB T X.K W t) := pw_or1 ha
theorem st_and {rest : List Expr} (ha : PT X a (tB T X.K W t)) (hb : PW X (.BoolOp .And (b :: rest) pos) (tB T X.K W u)) : PW X (.BoolOp .And (a :: b :: rest) pos) (tB T X.K W (mAnd t u)) :=
  pw_imp (pw_and ha hb) fun σ H Q ⟨g, G, env, ts, fp, S, h⟩ => ⟨g, G, env, ts, fp, S, h.bnd.mono fun r e1 k G1 H1 fp1 x S1 => by
    cases r with
    | true => exact iteT ⟨g, G1, e1, ts, fp1, S1, (show Aft _ _ _ _ _ _ _ _ (u e1) from k).up x fun _ _ => PB.up x⟩
    | false => exact iteF ((show PB _ _ _ _ _ false e1 G from k) G1 H1 fp1 x S1)⟩
theorem st_or {rest : List Expr} (ha : PT X a (tB T X.K W t)) (hb : PW X (.BoolOp .Or (b :: rest) pos) (tB T X.K W u)) : PW X (.BoolOp .Or (a :: b :: rest) pos) (tB T X.K W (mOr t u)) :=
  pw_imp (pw_or ha hb) fun σ H Q ⟨g, G, env, ts, fp, S, h⟩ => ⟨g, G, env, ts, fp, S, h.bnd.mono fun r e1 k G1 H1 fp1 x S1 => by
    cases r with
    | true => exact iteT ((show PB _ _ _ _ _ true e1 G from k) G1 H1 fp1 x S1)
    | false => exact iteF ⟨g, G1, e1, ts, fp1, S1, (show Aft _ _ _ _ _ _ _ _ (u e1) from k).up x fun _ _ => PB.up x⟩⟩
theorem st_not (ha : PT X a (tB T X.K W t)) : PT X (.UnaryOp .Not a pos) (tB T X.K W (mNot t)) :=
  pt_imp (pt_not ha) fun σ H Q ⟨g, G, env, ts, fp, S, h⟩ => ⟨g, G, env, ts, fp, S, h.bnd.mono fun r e1 k G1 H1 fp1 x S1 => (show PB _ _ _ _ _ (!r) e1 G from k) G1 H1 fp1 x S1⟩
/-- a if t else b, as a test -/
theorem pt_ifExp {t1 t2 t3 : TT} (hc : PT X c t1) (ha : PT X a t2) (hb : PT X b t3) : PT X (.IfExp c a b pos) (fun σ H Q => t1 σ H fun k H1 => if k = true then t2 σ H1 Q else t3 σ H1 Q) := by
  refine ⟨fun pins s σ H Q I h => ?_⟩
  show wpAny _ _ (do if ← isTrue c X.env (eval c X.env) then isTrue a X.env (eval a X.env) else isTrue b X.env (eval b X.env)) _ _ _
  refine wpAny_bind (thn (hc.run pins s σ H _ I h) fun k s1 ⟨H1, I1, q⟩ => ?_)
  cases k with
  | true => exact ha.run pins s1 σ H1 Q I1 q
  | false => exact hb.run pins s1 σ H1 Q I1 q
theorem st_if {t3 : M Bool} (hc : PT X c (tB T X.K W t3)) (ha : PT X a (tB T X.K W t)) (hb : PT X b (tB T X.K W u)) : PT X (.IfExp c a b pos) (tB T X.K W (mIf t3 t u)) :=
  pt_imp (pt_ifExp hc ha hb) fun σ H Q ⟨g, G, env, ts, fp, S, h⟩ => ⟨g, G, env, ts, fp, S, h.bnd.mono fun r e1 k G1 H1 fp1 x S1 => by
    cases r with
    | true => exact iteT ⟨g, G1, e1, ts, fp1, S1, (show Aft _ _ _ _ _ _ _ _ (t e1) from k).up x fun _ _ => PB.up x⟩
    | false => exact iteF ⟨g, G1, e1, ts, fp1, S1, (show Aft _ _ _ _ _ _ _ _ (u e1) from k).up x fun _ _ => PB.up x⟩⟩
theorem se_if {t3 : M Bool} (hc : PT X c (tB T X.K W t3)) (ha : PE X a (tO T X.K W m)) (hb : PE X b (tO T X.K W n)) : PE X (.IfExp c a b pos) (tO T X.K W (mIf t3 m n)) :=
  pe_imp (pe_ifExp hc ha hb) fun σ H Q ⟨g, G, env, ts, fp, S, h⟩ => ⟨g, G, env, ts, fp, S, h.bnd.mono fun r e1 k G1 H1 fp1 x S1 => by
    cases r with
    | true => exact iteT ⟨g, G1, e1, ts, fp1, S1, (show Aft _ _ _ _ _ _ _ _ (m e1) from k).up x fun _ _ => PO.up x⟩
    | false => exact iteF ⟨g, G1, e1, ts, fp1, S1, (show Aft _ _ _ _ _ _ _ _ (n e1) from k).up x fun _ _ => PO.up x⟩⟩
theorem se_one {op : BoolOp} (h : PE X a (tO T X.K W m)) : PE X (.BoolOp op [a] pos) (tO T X.K W m) := pe_one h
theorem se_and {rest : List Expr} (ha : PE X a (tD T X.K W ma)) (hb : PE X (.BoolOp .And (b :: rest) pos) (tO T X.K W m)) : PE X (.BoolOp .And (a :: b :: rest) pos) (tO T X.K W (mAndV (mIsB ma) m)) :=
  pe_imp (pe_and ha hb) fun σ H Q ⟨g, G, env, ts, fp, S, h⟩ => ⟨g, G, env, ts, fp, S, h.bnd.bnd.mono fun d e1 k v G1 H1 fp1 x S1 dp => by
    cases d with
    | bool r =>
      cases dp
      refine ⟨r, rfl, ?_⟩
      cases r with
      | true => exact iteT ⟨g, G1, e1, ts, fp1, S1, (show Aft _ _ _ _ _ _ _ _ (m e1) from k).up x fun _ _ => PO.up x⟩
      | false =>
        obtain ⟨fp4, S4⟩ := S1.pushVal (d := .bool false) (.bl false)
        exact iteF ((show PO _ _ _ _ _ (.val (.bool false)) e1 G from k) _ G1 H1 fp4 x S4)
    | _ => exact k.elim⟩
theorem se_or {rest : List Expr} (ha : PE X a (tD T X.K W ma)) (hb : PE X (.BoolOp .Or (b :: rest) pos) (tO T X.K W m)) : PE X (.BoolOp .Or (a :: b :: rest) pos) (tO T X.K W (mOrV (mIsB ma) m)) :=
  pe_imp (pe_or ha hb) fun σ H Q ⟨g, G, env, ts, fp, S, h⟩ => ⟨g, G, env, ts, fp, S, h.bnd.bnd.mono fun d e1 k v G1 H1 fp1 x S1 dp => by
    cases d with
    | bool r =>
      cases dp
      refine ⟨r, rfl, ?_⟩
      cases r with
      | false => exact iteF ⟨g, G1, e1, ts, fp1, S1, (show Aft _ _ _ _ _ _ _ _ (m e1) from k).up x fun _ _ => PO.up x⟩
      | true =>
        obtain ⟨fp4, S4⟩ := S1.pushVal (d := .bool true) (.bl true)
        exact iteT ((show PO _ _ _ _ _ (.val (.bool true)) e1 G from k) _ G1 H1 fp4 x S4)
    | _ => exact k.elim⟩
theorem se_not (ha : PE X a (tD T X.K W ma)) : PE X (.UnaryOp .Not a pos) (tO T X.K W (mB (mNot (mIsB ma)))) :=
  pe_imp (pe_not ha) fun σ H Q ⟨g, G, env, ts, fp, S, h⟩ => ⟨g, G, env, ts, fp, S, h.bnd.bnd.bnd.mono fun d e1 k v G1 H1 fp1 x S1 dp => by
    cases d with
    | bool r =>
      cases dp
      obtain ⟨fp4, S4⟩ := S1.pushVal (d := .bool (!r)) (.bl (!r))
      exact ⟨r, rfl, (show PO _ _ _ _ _ (.val (.bool (!r))) e1 G from k) _ G1 H1 fp4 x S4⟩
    | _ => exact k.elim⟩
theorem se_neg (ha : PE X a (tD T X.K W ma)) : PE X (.UnaryOp .USub a pos) (tO T X.K W (mNeg ma)) :=
  pe_imp (pe_un un_neg ha) fun σ H Q ⟨g, G, env, ts, fp, S, h⟩ => ⟨g, G, env, ts, fp, S, h.bnd.mono fun d e1 k v G1 H1 fp1 x S1 dp => by
    cases d with
    | int i =>
      cases dp
      obtain ⟨fp4, S4⟩ := S1.pushVal (d := .int (-i)) (.int (-i))
      exact ⟨i, rfl, (show PO _ _ _ _ _ (.val (.int (-i))) e1 G from k) _ G1 H1 fp4 x S4⟩
    | _ => exact k.elim⟩
theorem dps_atI {K : PySem.W.Frag} {G : Hp} {vs : List V} {ds : List D} {i : Int} {d : D} (h : DpAll K G vs ds) (e : atI ds i = some d) : ∃ v, atI vs i = some v ∧ Dp K G v d := by
  unfold atI at e ⊢
  rw [dps_len h]
  cases q : ixN ds.length i with
  | none => rw [q] at e; cases e
  | some j => rw [q] at e; exact dps_get h e
theorem ix_all : IxR X (rP2 X.K fun d e => (ixR d e).map .val) := by
  intro value slice pins s σ H x y v u Q I rx ry h hs
  obtain ⟨G, d, e, r, sub, hd, he, hr, q⟩ := h
  have hr : (ixR d e).map Res.val = some r := hr
  cases q0 : ixR d e with
  | none => rw [q0] at hr; cases hr
  | some z =>
    rw [q0] at hr; cases hr
    unfold ixR at q0
    split at q0
    · cases he
      cases hd with
      | lst h1 h2 =>
        obtain ⟨w, e1, e2⟩ := dps_atI h2 q0
        exact ix_list value slice pins s σ H _ _ v u Q I rx ry ⟨_, _, _, _, rfl, rfl, sub.sql h1, e1, q.same sub e2⟩ hs
    · cases he
      cases hd with
      | tup h1 h2 =>
        obtain ⟨w, e1, e2⟩ := dps_atI h2 q0
        exact ix_tup value slice pins s σ H _ _ v u Q I rx ry ⟨_, _, _, _, rfl, rfl, sub.sqt h1, e1, q.same sub e2⟩ hs
    · cases he; cases hd
      split at q0
      · rename_i hz
        cases q1 : atI _ _ with
        | none => rw [q1] at q0; cases q0
        | some cc =>
          rw [q1] at q0; cases q0
          exact ix_str value slice pins s σ H _ _ v u Q I rx ry ⟨_, _, _, rfl, rfl, lenOk_of hz, q1, q.same sub (.str _)⟩ hs
      · cases q0
    · cases q0
theorem se_ix (ha : PE X a (tD T X.K W ma)) (hb : PE X b (tD T X.K W mb)) (hs : PlainIx b) : PE X (.Subscript a b pos) (tO T X.K W (mIx ma mb)) := se_op2 (a := a) (b := b) (pe_ix ix_all ha hb hs)
/-- x[k], x a name of the def's -/
theorem se_sub {i : Nat} {x : Str} {p : Pos} (hN : X.N[i]? = some x) (hv : Vis X.env.scope x) (hd : (x == ("__debug__" : Str)) = false) (hcd : (x == ("__classdict__" : Str)) = false) (hb : PE X b (tD T X.K W mb)) (hs : PlainIx b) :
    PE X (.Subscript (.Name x p) b pos) (tO T X.K W (mSub i mb)) := by
  have rule : IxR X (fun x y H Q => rIx X.K x y H Q) := ix_seq
  refine pe_imp (pe_ix (rule.or ix_all) (pe_var hN hv hd hcd) hb hs) fun σ H Q ⟨g, G, env, ts, fp, S, h⟩ => ?_
  unfold mSub at h
  cases e : env[i]? with
  | none => rw [e] at h; exact h.elim
  | some oo =>
    cases oo with
    | none => rw [e] at h; exact h.elim
    | some o =>
      rw [e] at h
      obtain ⟨v, hv, _⟩ := S.get e
      refine ⟨v, hv, g, G, env, ts, fp, S, ?_⟩
      cases qm : mb env with
      | no => rw [qm] at h; exact h.elim
      | exc x e1 => rw [qm] at h; exact h
      | ok y e1 =>
        rw [qm] at h
        intro w G1 H1 fp1 x1 S1 dy
        cases e2 : e1[i]? with
        | none => simp only [e2] at h; exact h.elim
        | some oo =>
          cases oo with
          | none => simp only [e2] at h; exact h.elim
          | some o =>
            obtain ⟨v', hv', r⟩ := S1.get e2
            rw [hv] at hv'; cases hv'
            cases o with
            | val d =>
              simp only [e2] at h
              cases q3 : ixR d y with
              | none => simp only [q3] at h; exact h.elim
              | some z =>
                simp only [q3] at h
                refine .inr ⟨G1, d, y, .val z, S1.sub, (ro_val r).2, dy, by simp [q3], rr_of (r := .val z) S1 (PO.up x1 h)⟩
            | lst os =>
              simp only [e2] at h
              cases y with
              | int k =>
                cases dy
                simp only at h
                cases q3 : atI os k with
                | none => simp only [q3] at h; exact h.elim
                | some oz =>
                  cases oz with
                  | val z =>
                    simp only [q3] at h
                    obtain ⟨pa, pvs, pF, e5, _, h1, h2⟩ := ro_lst r
                    · subst e5
                      have hl := ros_len h2
                      have : ∃ u, atI pvs k = some u ∧ Dp X.K G1 u z := by
                        unfold atI at q3 ⊢
                        rw [hl]
                        cases q4 : ixN os.length k with
                        | none => rw [q4] at q3; cases q3
                        | some j =>
                          rw [q4] at q3
                          have q3 : os[j]? = some (.val z) := q3
                          exact ros_at h2 q3
                      obtain ⟨u, hu, du⟩ := this
                      obtain ⟨fp4, S4⟩ := S1.pushVal du
                      exact .inl (.inl ⟨pa, pvs, k, u, rfl, rfl, .inl (.inl h1), hu, h u G1 H1 fp4 x1 S4⟩)
                  | lst _ => simp only [q3] at h; exact h.elim
                  | tup _ => simp only [q3] at h; exact h.elim
              | _ => exact h.elim
            | tup os => simp only [e2] at h; exact h.elim
end
end MP

set_option Elab.async false
set_option linter.all false
set_option maxRecDepth 100000
set_option maxHeartbeats 4000000
namespace MP
open PySem PySem.Spec PyProof.Rows L2

section
variable {X : Cx} {T : Tab} {W : WX} {a b c e : Expr} {pos : Pos} {ma mb mc : M D} {m n : M O} {t u : M Bool}
def tPt (T : Tab) (K : PySem.W.Frag) (W : WX) (m : M (Option Int)) : TO := fun σ H Q => ∃ g G env ts fp, Stt K g G H env σ ts fp ∧ Aft T K W g ts σ G (fun o e G => ∀ G' H' fp', Ex G G' → Stt K g G' H' e σ ts fp' → Q o H') (m env)
theorem po_imp {e : Option Expr} {t t' : TO} (h : L2.PO X e t) (k : ∀ σ H Q, t' σ H Q → t σ H Q) : L2.PO X e t' := ⟨fun pins s σ H Q I q => h.run pins s σ H Q I (k σ H Q q)⟩
theorem sp_none : L2.PO X none (tPt T X.K W (pur none)) := po_imp po_none fun σ H Q ⟨g, G, env, ts, fp, S, h⟩ => h G H fp (Ex.refl G) S
theorem sp_some (h : PE X e (tD T X.K W ma)) : L2.PO X (some e) (tPt T X.K W (mPart ma)) := po_imp (po_some h) fun σ H Q ⟨g, G, env, ts, fp, S, h⟩ => ⟨g, G, env, ts, fp, S, h.bnd.mono fun d e1 k v G1 H1 fp1 x S1 dp => by
  cases d with
  | int i => cases dp; exact ⟨i, rfl, k G1 H1 fp1 x S1⟩
  | _ => exact k.elim⟩
def rSlD (K : PySem.W.Frag) : V → Option Int → Option Int → Hp → VK → Prop := fun x lo hi H Q => ∃ G d r, Ex G H ∧ Dp K G x d ∧ slR d lo hi = some r ∧ RR K G H r Q
theorem dps_cut {K : PySem.W.Frag} {G : Hp} {vs : List V} {ds : List D} (lo hi : Option Int) (h : DpAll K G vs ds) : DpAll K G (cutV vs lo hi) (cutD ds lo hi) := by
  unfold cutV cutD
  rw [dps_len h]
  exact dps_take _ (dps_drop _ h)
theorem cut_whole {ds : List D} {lo hi : Option Int} (h : HT.sIx ds.length 0 lo = 0 ∧ HT.sIx ds.length ds.length hi = ds.length) : cutD ds lo hi = ds := by
  unfold cutD
  rw [h.1, h.2, List.drop_zero, Nat.sub_zero, List.take_length]
theorem sl_all : SlR X (rSlD X.K) := by
  intro pins s σ H x v vl vu lo hi sl Q I rx hs pl pu h
  obtain ⟨G, d, r, sub, hd, hr, q⟩ := h
  unfold slR at hr
  split at hr
  · cases hr
    cases hd with
    | lst h1 h2 => exact sl_list pins s σ H _ v vl vu lo hi sl Q I rx hs pl pu ⟨_, _, rfl, sub.sql h1, fun p hp => q.lst sub (dps_cut lo hi h2) hp⟩
  · cases hr
    cases hd with
    | tup h1 h2 =>
      refine sl_tupA pins s σ H _ v vl vu lo hi sl Q I rx hs pl pu ⟨_, _, rfl, sub.sqt h1, fun z => ?_, fun _ p hp => q.tup sub (dps_cut lo hi h2) hp⟩
      rw [dps_len h2] at z
      rw [cut_whole z] at q
      exact q.same sub (.tup h1 h2)
  · cases hd
    split at hr
    · rename_i hz; cases hr
      exact sl_str pins s σ H _ v vl vu lo hi sl Q I rx hs pl pu ⟨_, rfl, lenOk_of hz, q.same sub (.str _)⟩
    · cases hr
  · cases hr
theorem se_sl {lo hi : Option Expr} {p2 : Pos} {ml mh : M (Option Int)} (ha : PE X a (tD T X.K W ma)) (hl : L2.PO X lo (tPt T X.K W ml)) (hh : L2.PO X hi (tPt T X.K W mh)) : PE X (.Subscript a (.Slice lo hi none p2) pos) (tO T X.K W (mSl ma ml mh)) :=
  pe_imp (pe_slice sl_all ha hl hh) fun σ H Q ⟨g, G, env, ts, fp, S, h⟩ => ⟨g, G, env, ts, fp, S, h.bnd.mono fun d e1 k v G1 H1 fp1 x S1 dp => ⟨g, G1, e1, ts, fp1, S1, (k.up x fun _ _ z => PO.up x z).bnd.mono fun o e2 k2 G2 H2 fp2 x2 S2 => ⟨g, G2, e2, ts, fp2, S2, (k2.up x2 fun _ _ => PO.up x2).bnd.mono fun o2 e3 k3 G3 H3 fp3 x3 S3 => by
    obtain ⟨r, er, rr⟩ := rr_res S3 (k3.up x3 fun _ _ => PO.up x3)
    exact ⟨G3, d, r, S3.sub, Dpm (x2.trans x3) dp, er, rr⟩⟩⟩⟩

theorem sl_nil : PA X [] (tL T X.K W (mList [])) := pa_imp pa_nil fun σ H Q ⟨g, G, env, ts, fp, S, h⟩ => (show PL _ _ _ _ _ [] env G from h) [] G H fp (Ex.refl G) S .nil
theorem sl_cons {es : List Expr} {ms : List (M D)} (ha : PE X e (tD T X.K W ma)) (hr : PA X es (tL T X.K W (mList ms))) (hs : starEach (e :: es) X.env = (false, eval e X.env) :: starEach es X.env) : PA X (e :: es) (tL T X.K W (mList (ma :: ms))) :=
  pa_imp (pa_cons ha hr hs) fun σ H Q ⟨g, G, env, ts, fp, S, h⟩ => ⟨g, G, env, ts, fp, S, h.bnd.mono fun d e1 k v G1 H1 fp1 x S1 dp => ⟨g, G1, e1, ts, fp1, S1, (k.up x fun _ _ => PL.up x).bnd.mono fun ds e2 k2 vs G2 H2 fp2 x2 S2 dps =>
    (show PL _ _ _ _ _ (d :: ds) e2 G1 from k2) (v :: vs) G2 H2 fp2 x2 S2 (.cons (Dpm x2 dp) dps)⟩⟩
theorem se_tup {es : List Expr} {ms : List (M D)} {k : Nat} (h : PA X es (tL T X.K W (mList ms))) : PE X (.Tuple es k pos) (tO T X.K W (mTup ms)) :=
  pe_imp (pe_tup h) fun σ H Q ⟨g, G, env, ts, fp, S, h⟩ => ⟨g, G, env, ts, fp, S, h.bnd.mono fun ds e1 k vs G1 H1 fp1 x S1 dps => by
    cases z : lenOk ds.length with
    | false => simp only [z] at k; exact k.elim
    | true =>
      simp only [z] at k
      exact ⟨by rw [dps_len dps]; exact lenOk_of z, fun p hp => RR.tup (ds := ds) S1.sub (rr_of (r := .val (.tuple ds)) S1 (PO.up x k)) dps hp⟩⟩
theorem se_lst {es : List Expr} {ms : List (M D)} (h : PA X es (tL T X.K W (mList ms))) : PE X (.List es pos) (tO T X.K W (mLst ms)) :=
  pe_imp (pe_lst h) fun σ H Q ⟨g, G, env, ts, fp, S, h⟩ => ⟨g, G, env, ts, fp, S, h.bnd.mono fun ds e1 k vs G1 H1 fp1 x S1 dps => by
    cases z : lenOk ds.length with
    | false => simp only [z] at k; exact k.elim
    | true =>
      simp only [z] at k
      exact ⟨by rw [dps_len dps]; exact lenOk_of z, fun p hp => RR.lst (ds := ds) S1.sub (rr_of (r := .new ds) S1 (PO.up x k)) dps hp⟩⟩

def rPs (K : PySem.W.Frag) (f : List D → Option Res) : List V → Hp → VK → Prop := fun vs H Q => ∃ G ds r, Ex G H ∧ DpAll K G vs ds ∧ f ds = some r ∧ RR K G H r Q
theorem tcb_of {ms : List (M D)} {f : List D → Option Res} {σ : L2.St} {H : Hp} {Q : VK} (h : tO T X.K W (bnd (mList ms) fun ds => resM (f ds)) σ H Q) : tCB (rPs X.K f) (tL T X.K W (mList ms)) σ H Q := by
  obtain ⟨g, G, env, ts, fp, S, h⟩ := h
  exact ⟨g, G, env, ts, fp, S, h.bnd.mono fun ds e1 k vs G1 H1 fp1 x S1 dps => by
    obtain ⟨r, er, rr⟩ := rr_res S1 (k.up x fun _ _ => PO.up x)
    exact ⟨G1, ds, r, S1.sub, dps, er, rr⟩⟩
theorem dps1 {K : PySem.W.Frag} {G : Hp} {vs : List V} {d : D} (h : DpAll K G vs [d]) : ∃ v, vs = [v] ∧ Dp K G v d := by
  cases h with | cons a t => cases t; exact ⟨_, rfl, a⟩
theorem dps2 {K : PySem.W.Frag} {G : Hp} {vs : List V} {d d2 : D} (h : DpAll K G vs [d, d2]) : ∃ v w, vs = [v, w] ∧ Dp K G v d ∧ Dp K G w d2 := by
  cases h with | cons a t => cases t with | cons b t => cases t; exact ⟨_, _, rfl, a, b⟩
/-- a function of the language: its value, what it does -/
def BiOk (X : Cx) (f : Bi) : Prop := (∃ id, bootBuiltins (biName f) = some (.builtin id) ∧ CallR X (.builtin id) (rPs X.K (biR f))) ∨ ∃ ty, bootBuiltins (biName f) = some (.type ty) ∧ CallR X (.type ty) (rPs X.K (biR f))
theorem bi_len : BiOk X .len := by
  refine .inl ⟨"len", boot_len, fun pins s σ H xs us Q I r ⟨G, ds, res, sub, hd, hf, q⟩ => ?_⟩
  have hf : lenR ds = some res := hf
  unfold lenR at hf
  split at hf
  · cases hf
    obtain ⟨v, rfl, d⟩ := dps1 hd
    cases d with
    | lst h1 h2 => exact call_len_seq pins s σ H _ us Q I r ⟨_, _, rfl, .inl (sub.sql h1), q.same sub (by rw [dps_len h2]; exact .int _)⟩
  · cases hf
    obtain ⟨v, rfl, d⟩ := dps1 hd
    cases d with
    | tup h1 h2 => exact call_len_seq pins s σ H _ us Q I r ⟨_, _, rfl, .inr (sub.sqt h1), q.same sub (by rw [dps_len h2]; exact .int _)⟩
  · split at hf
    · rename_i hz; cases hf
      obtain ⟨v, rfl, d⟩ := dps1 hd
      cases d
      exact call_len pins s σ H _ us Q I r ⟨_, _, rfl, ⟨lenOk_of hz, rfl⟩, q.same sub (.int _)⟩
    · cases hf
  · cases hf
theorem bi_all (hc : X.calm = true) : BiOk X .all := by
  refine .inl ⟨"all", by decide +kernel, fun pins s σ H xs us Q I r ⟨G, ds, res, sub, hd, hf, q⟩ => ?_⟩
  have hf : allR ds = some res := hf
  unfold allR at hf
  split at hf
  · obtain ⟨v, rfl, d⟩ := dps1 hd
    cases d with
    | lst h1 h2 =>
      cases qb : boolsD _ with
      | none => rw [qb] at hf; cases hf
      | some bs =>
        rw [qb] at hf; cases hf
        have := bools_of qb h2
        subst this
        exact cr_all hc pins s σ H _ us Q I r ⟨_, _, rfl, sub.sql h1, q.same sub (.bl _)⟩
  · cases hf
theorem bi_any (hc : X.calm = true) : BiOk X .any := by
  refine .inl ⟨"any", by decide +kernel, fun pins s σ H xs us Q I r ⟨G, ds, res, sub, hd, hf, q⟩ => ?_⟩
  have hf : anyR ds = some res := hf
  unfold anyR at hf
  split at hf
  · obtain ⟨v, rfl, d⟩ := dps1 hd
    cases d with
    | lst h1 h2 =>
      cases qb : boolsD _ with
      | none => rw [qb] at hf; cases hf
      | some bs =>
        rw [qb] at hf; cases hf
        have := bools_of qb h2
        subst this
        exact cr_any hc pins s σ H _ us Q I r ⟨_, _, rfl, sub.sql h1, q.same sub (.bl _)⟩
  · cases hf
theorem bi_sum (hc : X.calm = true) : BiOk X .sum := by
  refine .inl ⟨"sum", by decide +kernel, fun pins s σ H xs us Q I r ⟨G, ds, res, sub, hd, hf, q⟩ => ?_⟩
  have hf : sumR ds = some res := hf
  unfold sumR at hf
  split at hf
  · obtain ⟨v, rfl, d⟩ := dps1 hd
    cases d with
    | lst h1 h2 =>
      cases qb : intsD _ with
      | none => rw [qb] at hf; cases hf
      | some bs =>
        rw [qb] at hf; cases hf
        obtain ⟨rfl, _⟩ := ints_of qb h2
        exact cr_sum hc pins s σ H _ us Q I r ⟨_, _, rfl, sub.sql h1, q.same sub (.int _)⟩
  · cases hf
theorem bi_abs : BiOk X .abs := by
  refine .inl ⟨"abs", by decide +kernel, fun pins s σ H xs us Q I r ⟨G, ds, res, sub, hd, hf, q⟩ => ?_⟩
  have hf : absR ds = some res := hf
  unfold absR at hf
  split at hf
  · cases hf
    obtain ⟨v, rfl, d⟩ := dps1 hd
    cases d
    exact call_abs pins s σ H _ us Q I r ⟨_, rfl, q.same sub (.int _)⟩
  · cases hf
theorem bi_min (hc : X.calm = true) : BiOk X .min := by
  refine .inl ⟨"min", by decide +kernel, fun pins s σ H xs us Q I r ⟨G, ds, res, sub, hd, hf, q⟩ => ?_⟩
  have hf : minR ds = some res := hf
  unfold minR at hf
  split at hf
  · cases hf
    obtain ⟨v, w, rfl, d, d2⟩ := dps2 hd
    cases d; cases d2
    exact call_min2 hc pins s σ H _ us Q I r ⟨_, _, rfl, q.same sub (.int _)⟩
  · cases hf
theorem bi_max (hc : X.calm = true) : BiOk X .max := by
  refine .inl ⟨"max", by decide +kernel, fun pins s σ H xs us Q I r ⟨G, ds, res, sub, hd, hf, q⟩ => ?_⟩
  have hf : maxR ds = some res := hf
  unfold maxR at hf
  split at hf
  · cases hf
    obtain ⟨v, w, rfl, d, d2⟩ := dps2 hd
    cases d; cases d2
    exact call_max2 hc pins s σ H _ us Q I r ⟨_, _, rfl, q.same sub (.int _)⟩
  · cases hf
theorem bi_int : BiOk X .int := by
  refine .inr ⟨"int", boot_int, fun pins s σ H xs us Q I r ⟨G, ds, res, sub, hd, hf, q⟩ => ?_⟩
  have hf : intR ds = some res := hf
  unfold intR at hf
  split at hf
  · cases hf
    obtain ⟨v, rfl, d⟩ := dps1 hd
    cases d
    exact call_int1 pins s σ H _ us Q I r (.inl ⟨_, rfl, q.same sub (.int _)⟩)
  · cases hf
    obtain ⟨v, rfl, d⟩ := dps1 hd
    cases d
    exact call_int1 pins s σ H _ us Q I r (.inr ⟨_, rfl, q.same sub (.int _)⟩)
  · obtain ⟨v, rfl, d⟩ := dps1 hd
    cases d
    split at hf
    · rename_i hz
      cases qn : intText? _ with
      | none => rw [qn] at hf; cases hf
      | some n =>
        rw [qn] at hf; cases hf
        exact call_int_str pins s σ H _ us Q I r ⟨_, n, rfl, qn, of_decide_eq_true hz, q.same sub (.int _)⟩
    · cases hf
  · cases hf
theorem bi_str : BiOk X .str := by
  refine .inr ⟨"str", by decide +kernel, fun pins s σ H xs us Q I r ⟨G, ds, res, sub, hd, hf, q⟩ => ?_⟩
  have hf : strR ds = some res := hf
  unfold strR at hf
  split at hf
  · split at hf
    · rename_i hz; cases hf
      obtain ⟨v, rfl, d⟩ := dps1 hd
      cases d
      exact call_str_int pins s σ H _ us Q I r ⟨_, rfl, of_decide_eq_true hz, q.same sub (.str _)⟩
    · cases hf
  · cases hf
theorem bi_list : BiOk X .list := by
  refine .inr ⟨"list", by decide +kernel, fun pins s σ H xs us Q I r ⟨G, ds, res, sub, hd, hf, q⟩ => ?_⟩
  have hf : listR ds = some res := hf
  unfold listR at hf
  split at hf
  · cases hf
    obtain ⟨v, rfl, d⟩ := dps1 hd
    cases d with
    | lst h1 h2 => exact call_list_of pins s σ H _ us Q I r ⟨_, _, rfl, .inl (sub.sql h1), fun p hp => q.lst sub h2 hp⟩
  · cases hf
    obtain ⟨v, rfl, d⟩ := dps1 hd
    cases d with
    | tup h1 h2 => exact call_list_of pins s σ H _ us Q I r ⟨_, _, rfl, .inr (sub.sqt h1), fun p hp => q.lst sub h2 hp⟩
  · cases hf
theorem bi_tuple : BiOk X .tuple := by
  refine .inr ⟨"tuple", by decide +kernel, fun pins s σ H xs us Q I r ⟨G, ds, res, sub, hd, hf, q⟩ => ?_⟩
  have hf : tupleR ds = some res := hf
  unfold tupleR at hf
  split at hf
  · cases hf
    obtain ⟨v, rfl, d⟩ := dps1 hd
    cases d with
    | lst h1 h2 => exact call_tuple_of pins s σ H _ us Q I r ⟨_, _, rfl, .inl ⟨sub.sql h1, fun p hp => q.tup sub h2 hp⟩⟩
  · cases hf
    obtain ⟨v, rfl, d⟩ := dps1 hd
    cases d with
    | tup h1 h2 => exact call_tuple_of pins s σ H _ us Q I r ⟨_, _, rfl, .inr ⟨sub.sqt h1, q.same sub (.tup h1 h2)⟩⟩
  · cases hf
theorem bi_ok (hc : X.calm = true) : ∀ f : Bi, BiOk X f
  | .len => bi_len
  | .all => bi_all hc
  | .any => bi_any hc
  | .sum => bi_sum hc
  | .abs => bi_abs
  | .min => bi_min hc
  | .max => bi_max hc
  | .int => bi_int
  | .str => bi_str
  | .list => bi_list
  | .tuple => bi_tuple
theorem se_bi {x : Bi} {p : Pos} {es : List Expr} {ms : List (M D)} (B : BiOk X x) (hg : Gl X (biName x)) (hm : X.mg (biName x) = none) (ha : PA X (e :: es) (tL T X.K W (mList ms))) (hn : biName x ≠ "__name__") (hdb : (biName x == ("__debug__" : Str)) = false)
    (he : starEach (e :: es) X.env = (false, eval e X.env) :: starEach es X.env) (hpl : (backTo pos (starEach es X.env)).any (·.1) = false) : PE X (.Call (.Name (biName x) p) (e :: es) [] pos) (tO T X.K W (mBi x ms)) := by
  rcases B with ⟨id, hv, hr⟩ | ⟨ty, hv, hr⟩
  · exact pe_imp (pe_callB hr hg hm hv ha hn hdb he hpl) fun σ H Q h => tcb_of h
  · exact pe_imp (pe_callTy hr hg hm hv ha hn hdb he hpl) fun σ H Q h => tcb_of h
theorem tyx_of {G H : Hp} {x : V} {d : D} (sub : Ex G H) (h : Dp X.K G x d) : TyX X.K H x (.type (tyR d)) := by
  cases h with
  | non => exact .base .non
  | bl b => exact .base (.bl b)
  | int i => exact .base (.int i)
  | str z => exact .base (.str z)
  | lst h1 _ =>
    rcases sub.sql h1 with (h | ⟨o, h⟩) | ⟨o, its, n, hk, hcl, _⟩
    · exact .base (.lst h)
    · exact .base (.frz h)
    · exact .kList hk hcl
  | tup h1 _ =>
    rcases sub.sqt h1 with (h | ⟨o, h⟩) | ⟨o, its, n, hk, hcl, _⟩
    · exact .base (.tup h)
    · exact .fTuple h
    · exact .kTuple hk hcl
theorem pe_isi {Ty : Str} {ty : String} {p p2 : Pos} (ha : PE X a (tD T X.K W ma)) (hg : Gl X "isinstance") (hm : X.mg "isinstance" = none) (gT : Gl X Ty) (mT : X.mg Ty = none) (vT : bootBuiltins Ty = some (.type ty)) (nT : Ty ≠ "__name__") (dT : (Ty == ("__debug__" : Str)) = false)
    (he : starEach [a, .Name Ty p2] X.env = (false, eval a X.env) :: starEach [.Name Ty p2] X.env) (hpl : (backTo pos (starEach [.Name Ty p2] X.env)).any (·.1) = false) :
    PE X (.Call (.Name "isinstance" p) [a, .Name Ty p2] [] pos) (fun σ H Q => tD T X.K W ma σ H fun x H1 => ∃ t b, TyX X.K H1 x t ∧ PySem.W.kitOne X.K t (.type ty) = some b ∧ Q (.bl b) H1) := by
  have hT : PE X (.Name Ty p2) (tC (.ty ty)) := pe_bltn gT mT vT rfl nT dT
  refine pe_imp (pe_callB call_isi hg hm (by decide +kernel) (pa_cons ha (pa_cons hT pa_nil rfl) he) (by decide) (by decide) he hpl) fun σ H Q h => ?_
  obtain ⟨g, G, env, ts, fp, S, h⟩ := h
  refine ⟨g, G, env, ts, fp, S, h.mono fun d e1 k v G1 H1 fp1 x S1 dp => ?_⟩
  obtain ⟨t, b, h1, h2, q⟩ := k v G1 H1 fp1 x S1 dp
  exact ⟨v, .ty ty, t, .type ty, b, rfl, .ty ty, h1, h2, q⟩
theorem se_isi {Ty : Str} {ty : String} {p p2 : Pos} (ha : PE X a (tD T X.K W ma)) (hg : Gl X "isinstance") (hm : X.mg "isinstance" = none) (gT : Gl X Ty) (mT : X.mg Ty = none) (vT : bootBuiltins Ty = some (.type ty)) (nT : Ty ≠ "__name__") (dT : (Ty == ("__debug__" : Str)) = false)
    (he : starEach [a, .Name Ty p2] X.env = (false, eval a X.env) :: starEach [.Name Ty p2] X.env) (hpl : (backTo pos (starEach [.Name Ty p2] X.env)).any (·.1) = false) :
    PE X (.Call (.Name "isinstance" p) [a, .Name Ty p2] [] pos) (tO T X.K W (mB (mIsi ma ty))) :=
  pe_imp (pe_isi ha hg hm gT mT vT nT dT he hpl) fun σ H Q ⟨g, G, env, ts, fp, S, h⟩ => ⟨g, G, env, ts, fp, S, h.bnd.bnd.mono fun d e1 k v G1 H1 fp1 x S1 dp => by
    cases q : isiR d ty with
    | none => rw [q] at k; exact k.elim
    | some b =>
      rw [q] at k
      obtain ⟨fp4, S4⟩ := S1.pushVal (d := .bool b) (.bl b)
      exact ⟨_, b, tyx_of S1.sub dp, kit_ty q, (show PO _ _ _ _ _ (.val (.bool b)) e1 G from k) _ G1 H1 fp4 x S4⟩⟩
theorem se_split {p : Pos} (ho : PE X a (tD T X.K W ma)) (he : PE X b (tD T X.K W mb)) (hs : starEach [b] X.env = [(false, eval b X.env)]) (hbase : attributeBase a "split" X.env (eval a X.env) = eval a X.env) (hline : (p.endLine == pos.line) = true) :
    PE X (.Call (.Attribute a "split" p) [b] [] pos) (tO T X.K W (mMt splitR ma mb)) :=
  pe_imp (pe_split ho he hs hbase hline) fun σ H Q ⟨g, G, env, ts, fp, S, h⟩ => ⟨g, G, env, ts, fp, S, h.bnd.mono fun d e1 k v G1 H1 fp1 x S1 dp => by
    cases d with
    | str z =>
      cases dp
      refine ⟨⟨z, rfl⟩, g, G1, e1, ts, fp1, S1, ((show Aft _ _ _ _ _ _ _ _ (bnd mb (fun x => resM (splitR z x)) e1) from k).up x fun _ _ => PO.up x).bnd.mono fun d2 e2 k2 v2 G2 H2 fp2 x2 S2 dp2 => ?_⟩
      obtain ⟨r, er, rr⟩ := rr_res S2 (k2.up x2 fun _ _ => PO.up x2)
      unfold splitR at er
      split at er
      · split at er
        · rename_i hz; cases er; cases dp2
          simp only [Bool.and_eq_true, decide_eq_true_eq] at hz
          refine ⟨_, _, rfl, rfl, by have := hz.1; simpa using this, hz.2, fun p hp => ?_⟩
          exact RR.lst S2.sub rr (by
            have : ∀ l : List Str, DpAll X.K G2 (l.map V.str) (l.map PyData.str) := fun l => by
              induction l with
              | nil => exact .nil
              | cons y l ih => exact .cons (.str y) ih
            exact this _) hp
        · cases er
      · cases er
    | _ => exact k.elim⟩
theorem se_joinT {p : Pos} (ho : PE X a (tD T X.K W ma)) (he : PE X b (tD T X.K W mb)) (hs : starEach [b] X.env = [(false, eval b X.env)]) (hbase : attributeBase a "join" X.env (eval a X.env) = eval a X.env) (hline : (p.endLine == pos.line) = true) :
    PE X (.Call (.Attribute a "join" p) [b] [] pos) (tO T X.K W (mMt joinD ma mb)) :=
  pe_imp (pe_join ho he hs hbase hline) fun σ H Q ⟨g, G, env, ts, fp, S, h⟩ => ⟨g, G, env, ts, fp, S, h.bnd.mono fun d e1 k v G1 H1 fp1 x S1 dp => by
    cases d with
    | str z =>
      cases dp
      refine ⟨⟨z, rfl⟩, g, G1, e1, ts, fp1, S1, ((show Aft _ _ _ _ _ _ _ _ (bnd mb (fun x => resM (joinD z x)) e1) from k).up x fun _ _ => PO.up x).bnd.mono fun d2 e2 k2 v2 G2 H2 fp2 x2 S2 dp2 => ?_⟩
      obtain ⟨r, er, rr⟩ := rr_res S2 (k2.up x2 fun _ _ => PO.up x2)
      unfold joinD at er
      split at er
      · cases dp2 with
        | lst h1 h2 =>
          cases q1 : strsD _ with
          | none => rw [q1] at er; cases er
          | some ys =>
            rw [q1] at er
            have er : (joinR z ys).map (fun z => Res.val (.str z)) = some r := er
            have e3 := strs_of q1 h2
            subst e3
            unfold joinR at er
            split at er
            · rename_i hz; cases er
              exact ⟨z, _, ys, rfl, rfl, .inl (S2.sub.sql h1), of_decide_eq_true hz, RR.same S2.sub rr (.str _)⟩
            · cases er
      · cases er
    | _ => exact k.elim⟩
theorem sf_c {z : Str} {k : Nat} : PE X (.Constant (.str z) k pos) (tD T X.K W (pur (.str z))) := pe_imp pe_str fun σ H Q ⟨g, G, env, ts, fp, S, h⟩ => (show PD _ _ _ _ _ (.str z) env G from h) _ G H fp (Ex.refl G) S (.str z)
theorem sf_fmt (h : PE X a (tD T X.K W ma)) : PE X (.FormattedValue a (-1) none pos) (tD T X.K W (mFmt ma)) :=
  pe_imp (pe_fmt h) fun σ H Q ⟨g, G, env, ts, fp, S, h⟩ => ⟨g, G, env, ts, fp, S, h.bnd.mono fun d e1 k v G1 H1 fp1 x S1 dp => by
    cases q : fmtR d with
    | none => rw [q] at k; exact k.elim
    | some z =>
      rw [q] at k
      have k : PD X.K g ts σ Q (.str z) e1 G := k
      unfold fmtR at q
      split at q
      · split at q
        · rename_i hz; cases q; cases dp
          exact .inl ⟨_, rfl, lenOk_of hz, k _ G1 H1 fp1 x S1 (.str _)⟩
        · cases q
      · split at q
        · rename_i hz; cases q; cases dp
          exact .inr ⟨_, rfl, of_decide_eq_true hz, k _ G1 H1 fp1 x S1 (.str _)⟩
        · cases q
      · cases q⟩
inductive PJd (X : Cx) (T : Tab) (W : WX) : List Expr → List (M D) → Prop where
  | nil : PJd X T W [] []
  | cons {e : Expr} {m : M D} {es : List Expr} {ms : List (M D)} (h : PE X e (tD T X.K W m)) (r : PJd X T W es ms) : PJd X T W (e :: es) (m :: ms)
theorem PJd.pj {es : List Expr} {ms : List (M D)} (h : PJd X T W es ms) : PJ X es (ms.map fun m => tD T X.K W m) := by
  induction h with
  | nil => exact .nil
  | cons h r ih => exact .cons h ih
theorem tjs_of : ∀ {ms : List (M D)} {acc : Str} {g : Gh} {G H : Hp} {env : Env} {ts : Tmp} {fp : Ix → List Addr} {σ : L2.St} {Q : Str → Hp → Prop}, Stt X.K g G H env σ ts fp →
    Aft T X.K W g ts σ G (fun z e G => ∀ G' H' fp', Ex G G' → Stt X.K g G' H' e σ ts fp' → Q z H') (mJs ms acc env) → tJs (ms.map fun m => tD T X.K W m) acc σ H Q
  | [], acc, _, G, H, _, _, fp, _, _, S, h => h G H fp (Ex.refl G) S
  | m :: ms, acc, g, G, H, env, ts, fp, σ, Q, S, h => by
    refine ⟨g, G, env, ts, fp, S, (show Aft _ _ _ _ _ _ _ _ (bnd m _ env) from h).bnd.mono fun d e1 k v G1 H1 fp1 x S1 dp => ?_⟩
    cases d with
    | str y =>
      cases dp
      cases hz : lenOk (acc ++ y).length with
      | false => simp only [hz] at k; exact k.elim
      | true =>
        simp only [hz] at k
        exact ⟨y, rfl, lenOk_of hz, tjs_of S1 ((show Aft _ _ _ _ _ _ _ _ (mJs ms (acc ++ y) e1) from k).up x fun _ _ z G' H' fp' q => z G' H' fp' (x.trans q))⟩
    | _ => exact k.elim
theorem se_joined {e1 e2 : Expr} {es : List Expr} {ms : List (M D)} (h : PJd X T W (e1 :: e2 :: es) ms) : PE X (.JoinedStr (e1 :: e2 :: es) pos) (tO T X.K W (mJoin ms)) :=
  pe_imp (pe_joined h.pj) fun σ H Q ⟨g, G, env, ts, fp, S, h⟩ => tjs_of S (h.bnd.mono fun z e k G' H' fp' x S' => by
    obtain ⟨fp4, S4⟩ := S'.pushVal (d := .str z) (.str z)
    exact (show PO _ _ _ _ _ (.val (.str z)) e G from k) _ G' H' fp4 x S4)
/-- a name's own value, as it lies -/
theorem own_dp {K : PySem.W.Frag} {g : Gh} {G H : Hp} {env : Env} {σ : L2.St} {ts : Tmp} {fp : Ix → List Addr} (S : Stt K g G H env σ ts fp) {i : Nat} {o : O} (h : env[i]? = some (some o)) : ∃ v, σ[i]? = some (some v) ∧ Dp K H v o.frz := by
  obtain ⟨v, hv, r⟩ := S.get h
  exact ⟨v, hv, ro_frz S.sub o v _ (fun _ _ => rfl) r⟩
theorem se_lenN {i : Nat} {x : Str} {p p2 : Pos} (hN : X.N[i]? = some x) (hv : Vis X.env.scope x) (hd : (x == ("__debug__" : Str)) = false) (hcd : (x == ("__classdict__" : Str)) = false) (hg : Gl X "len") (hm : X.mg "len" = none)
    (he : starEach [.Name x p2] X.env = [(false, eval (.Name x p2) X.env)]) : PE X (.Call (.Name "len" p) [.Name x p2] [] pos) (tO T X.K W (mLenN i)) := by
  rcases bi_len (X := X) with ⟨id, hvb, hr⟩ | ⟨ty, hvb, hr⟩
  · refine pe_imp (pe_callB hr hg hm hvb (pa_cons (pe_var hN hv hd hcd) pa_nil he) (by decide) (by decide) he rfl) fun σ H Q ⟨g, G, env, ts, fp, S, h⟩ => ?_
    unfold mLenN at h
    cases e : env[i]? with
    | none => rw [e] at h; exact h.elim
    | some oo =>
      cases oo with
      | none => rw [e] at h; exact h.elim
      | some o =>
        obtain ⟨v, h1, h2⟩ := own_dp S e
        simp only [e] at h
        cases q : lenR [o.frz] with
        | none => simp only [q] at h; exact h.elim
        | some r =>
          simp only [q] at h
          have hr : ∃ n : Int, r = .val (.int n) := by
            unfold lenR at q
            split at q
            · cases q; exact ⟨_, rfl⟩
            · cases q; exact ⟨_, rfl⟩
            · split at q
              · cases q; exact ⟨_, rfl⟩
              · cases q
            · cases q
          obtain ⟨n, rfl⟩ := hr
          refine ⟨v, h1, H, [o.frz], _, Ex.refl H, .cons h2 .nil, q, fun z G' H' w dp => ?_⟩
          cases dp
          obtain ⟨fp4, S4⟩ := (S.grow ⟨Ex.refl G, w.hh, S.sub.trans w.hh, fun _ h => .inl h⟩).pushVal (d := .int n) (.int n)
          exact (show PO _ _ _ _ _ (.val (.int n)) env G from h) _ G H' fp4 (Ex.refl G) S4
  · exfalso
    rw [show biName .len = ("len" : Str) from rfl, boot_len] at hvb
    cases hvb
end
end MP

set_option Elab.async false
set_option linter.all false
set_option maxRecDepth 100000
set_option maxHeartbeats 4000000
namespace MP
open PySem PySem.Spec PyProof.Rows L2

section
variable {X : Cx} {T : Tab} {W : WX} {a b c e : Expr} {pos : Pos} {ma mb mc : M D} {m n : M O} {t u : M Bool}
theorem ros_nth {K : PySem.W.Frag} {G H : Hp} : ∀ {os : List O} {vs : List V} {F : List Addr} {j : Nat} {o : O}, ROs K G H os vs F → os[j]? = some o → ∃ v F', vs[j]? = some v ∧ RO K G H o v F' ∧ ∀ a ∈ F', a ∈ F
  | _, _, _, _, _, .nil, e => by simp at e
  | _, _, _, 0, _, .cons h t, e => by simp at e; subst e; exact ⟨_, _, rfl, h, fun a ha => List.mem_append_left _ ha⟩
  | _, _, _, j + 1, _, .cons h t, e => by
    obtain ⟨v, F', h1, h2, h3⟩ := ros_nth (j := j) t (by simpa using e)
    exact ⟨v, F', by simpa using h1, h2, fun a ha => List.mem_append_right _ (h3 a ha)⟩
theorem getP_snoc (k : Int) : ∀ (p : List Int) (o : O), getP o (p ++ [k]) = (getP o p).bind fun o1 => getP o1 [k]
  | [], o => by simp [getP]
  | i :: p, .val d => by simp [getP]
  | i :: p, .lst os => by
    show (atI os i).bind (fun o => getP o (p ++ [k])) = ((atI os i).bind fun o => getP o p).bind _
    cases atI os i with
    | none => rfl
    | some o => exact getP_snoc k p o
  | i :: p, .tup os => by
    show (atI os i).bind (fun o => getP o (p ++ [k])) = ((atI os i).bind fun o => getP o p).bind _
    cases atI os i with
    | none => rfl
    | some o => exact getP_snoc k p o
/-- the thing at a place -/
def tP (K : PySem.W.Frag) (i : Nat) (p : List Int) : TE := fun σ H Q => ∃ G o v F o', σ[i]? = some (some v) ∧ RO K G H o v F ∧ getP o p = some o' ∧ ∀ v' F', RO K G H o' v' F' → (∀ a ∈ F', a ∈ F) → Q v' H
theorem sp_name {i : Nat} {x : Str} (hN : X.N[i]? = some x) (hv : Vis X.env.scope x) (hd : (x == ("__debug__" : Str)) = false) (hcd : (x == ("__classdict__" : Str)) = false) : PE X (.Name x pos) (tP X.K i []) :=
  pe_imp (pe_var hN hv hd hcd) fun σ H Q ⟨G, o, v, F, o', h1, h2, h3, h4⟩ => by
    have : o = o' := Option.some.inj h3
    subst this
    exact ⟨v, h1, h4 v F h2 fun _ h => h⟩
theorem sp_ix {i : Nat} {p : List Int} {k : Int} (ha : PE X a (tP X.K i p)) (hb : PE X b (tC (.int k))) (hs : PlainIx b) : PE X (.Subscript a b pos) (tP X.K i (p ++ [k])) :=
  pe_imp (pe_ix ix_seq ha hb hs) fun σ H Q ⟨G, o, v, F, o', h1, h2, h3, h4⟩ => by
    rw [getP_snoc] at h3
    cases q : getP o p with
    | none => rw [q] at h3; cases h3
    | some o1 =>
      rw [q] at h3
      refine ⟨G, o, v, F, o1, h1, h2, q, fun v' F' r hF => ?_⟩
      cases o1 with
      | val d => cases h3
      | lst os =>
        obtain ⟨ad, vs, F1, rfl, rfl, e1, e2⟩ := ro_lst r
        have h3 : (atI os k).bind (fun o => some o) = some o' := h3
        unfold atI at h3
        cases q2 : ixN os.length k with
        | none => rw [q2] at h3; cases h3
        | some j =>
          rw [q2] at h3
          have h3 : (os[j]?).bind (fun o => some o) = some o' := h3
          have h3 : os[j]? = some o' := by cases z : os[j]? with
            | none => rw [z] at h3; cases h3
            | some y => rw [z] at h3; exact h3
          obtain ⟨w, F2, g1, g2, g3⟩ := ros_nth e2 h3
          refine .inl ⟨ad, vs, k, w, rfl, rfl, .inl (.inl e1), ?_, h4 w F2 g2 fun a ha => hF a (List.mem_cons_of_mem _ (g3 a ha))⟩
          unfold atI; rw [ros_len e2, q2]; exact g1
      | tup os =>
        obtain ⟨ad, vs, F1, rfl, rfl, e1, e2⟩ := ro_tup r
        have h3 : (atI os k).bind (fun o => some o) = some o' := h3
        unfold atI at h3
        cases q2 : ixN os.length k with
        | none => rw [q2] at h3; cases h3
        | some j =>
          rw [q2] at h3
          have h3 : (os[j]?).bind (fun o => some o) = some o' := h3
          have h3 : os[j]? = some o' := by cases z : os[j]? with
            | none => rw [z] at h3; cases h3
            | some y => rw [z] at h3; exact h3
          obtain ⟨w, F2, g1, g2, g3⟩ := ros_nth e2 h3
          refine .inr (.inl ⟨ad, vs, k, w, rfl, rfl, .inl (.inl e1), ?_, h4 w F2 g2 fun a ha => hF a (List.mem_cons_of_mem _ (g3 a ha))⟩)
          unfold atI; rw [ros_len e2, q2]; exact g1
theorem st_cmpP {op : CmpOp} {i : Nat} {p : List Int} {p2 : Pos} (hu : X.A.units + 65 < cLine) (ha : PE X a (tP X.K i p)) : PT X (.Compare a [op] [.List [] p2] pos) (tB T X.K W (mCmpP op i p (.list []))) :=
  pt_imp (pt_cmpR (op_cmp hu op) ha (pe_lst pa_nil) (by cases op <;> rfl)) fun σ H Q ⟨g, G, env, ts, fp, S, h⟩ => by
    unfold mCmpP at h
    cases e : env[i]? with
    | none => rw [e] at h; exact h.elim
    | some oo =>
      cases oo with
      | none => rw [e] at h; exact h.elim
      | some o =>
        simp only [e] at h
        cases q : getP o p with
        | none => simp only [q] at h; exact h.elim
        | some o' =>
          simp only [q] at h
          cases q2 : cmpR op o'.frz (.list []) with
          | none => simp only [q2] at h; exact h.elim
          | some b =>
            simp only [q2] at h
            obtain ⟨v, hv, r⟩ := S.get e
            refine ⟨G, o, v, _, o', hv, r, q, fun v' F' r' hF => ⟨Nat.zero_le _, fun ad hp => ⟨upd H ad (.lst []), o'.frz, .list [], b, Ex.refl _, ro_frz (S.sub.trans (Ex.new hp)) o' v' F' (fun x hx => ?_) r', .lst (.inl (.inl upd_same)) .nil, q2, b, rfl, ?_⟩⟩⟩
            · rw [upd_ne]; rintro rfl; exact (S.ow _ _ (hF _ hx)).2.1 hp
            · exact h G _ _ (Ex.refl G) (S.grow (Grow.own S.sub hp))
theorem se_cmpP {op : CmpOp} {i : Nat} {p : List Int} {p2 : Pos} (hu : X.A.units + 65 < cLine) (ha : PE X a (tP X.K i p)) : PE X (.Compare a [op] [.List [] p2] pos) (tO T X.K W (mB (mCmpP op i p (.list [])))) :=
  pe_imp (pe_cmpR (op_cmp hu op) ha (pe_lst pa_nil) (by cases op <;> rfl)) fun σ H Q ⟨g, G, env, ts, fp, S, h⟩ => by
    have h := h.bnd
    unfold mCmpP at h
    cases e : env[i]? with
    | none => rw [e] at h; exact h.elim
    | some oo =>
      cases oo with
      | none => rw [e] at h; exact h.elim
      | some o =>
        simp only [e] at h
        cases q : getP o p with
        | none => simp only [q] at h; exact h.elim
        | some o' =>
          simp only [q] at h
          cases q2 : cmpR op o'.frz (.list []) with
          | none => simp only [q2] at h; exact h.elim
          | some b =>
            simp only [q2] at h
            have h : PO X.K g ts σ Q (.val (.bool b)) env G := h
            obtain ⟨v, hv, r⟩ := S.get e
            refine ⟨G, o, v, _, o', hv, r, q, fun v' F' r' hF => ⟨Nat.zero_le _, fun ad hp => ⟨upd H ad (.lst []), o'.frz, .list [], b, Ex.refl _, ro_frz (S.sub.trans (Ex.new hp)) o' v' F' (fun x hx => ?_) r', .lst (.inl (.inl upd_same)) .nil, q2, ?_⟩⟩⟩
            · rw [upd_ne]; rintro rfl; exact (S.ow _ _ (hF _ hx)).2.1 hp
            · obtain ⟨fp3, S3⟩ := (S.grow (Grow.own S.sub hp)).pushVal (d := .bool b) (.bl b)
              exact h _ G _ fp3 (Ex.refl G) S3

/-- called with such values, it does what den says of what they are -/
def spF (T : Tab) (K : PySem.W.Frag) (n : Nat) (den : List O → FOut) : Sp := fun vs H Q E => vs.length = n ∧ ∃ G F0 os fp, Stt K ⟨G, H, F0, vs.map some⟩ G H (os.map some) (vs.map some) [] fp ∧ match den os with
  | .ok o fin => ∀ v G' H' fp', Ex G G' → Stt K ⟨G, H, F0, vs.map some⟩ G' H' fin (vs.map some) [(o, v)] fp' → Q v H'
  | .exc x fin => ∀ cls d G' H' fp', Ex G G' → Stt K ⟨G, H, F0, vs.map some⟩ G' H' fin (vs.map some) [] fp' → XR T K G' H' x cls d → E cls d H'
  | .no => False
/-- a function keeps its promise, wherever no repr runs -/
structure FnG (P : Program) (w : World) (K : PySem.W.Frag) (mg : Str → Option Value) (base : Heap) (cx : CXT) (k : Nat) (f : Addr) (fd : FuncData) (ps : List Str) (sp : Sp) : Prop where
  len : ∀ vs H Q E, sp vs H Q E → vs.length = ps.length
  run : ∀ (A : Around) (outer : List PySem.Env) (s : Shared) (H : Hp) (args : Args) (us : List Value) (vs : List V) (Q : VK) (E : XK), Room k A → A.guards = some [] → Env0 P w K mg base A outer s H → BindsTo s fd args (ps.zip us) → Vals vs us →
    sp vs H Q E → codeAny (model P w) A (.call (.ref f) args) (CR cx outer P w H s Q E) s
/-- how arguments lie -/
def AR (K : PySem.W.Frag) (σ : L2.St) (G : Hp) : Arg → V → Prop
  | .val d, v => Dp K G v d
  | .lend i, v => σ[i]? = some (some v)
def ARs (K : PySem.W.Frag) (σ : L2.St) (G : Hp) : List Arg → List V → Prop
  | [], [] => True
  | a :: as, v :: vs => AR K σ G a v ∧ ARs K σ G as vs
  | _, _ => False
theorem ARs.up {K : PySem.W.Frag} {σ : L2.St} {G G1 : Hp} (x : Ex G G1) : ∀ {as : List Arg} {vs : List V}, ARs K σ G as vs → ARs K σ G1 as vs
  | [], [], _ => trivial
  | .val d :: as, v :: vs, h => ⟨Dpm x h.1, ARs.up x h.2⟩
  | .lend i :: as, v :: vs, h => ⟨h.1, ARs.up x h.2⟩
  | [], _ :: _, h => h.elim
  | _ :: _, [], h => by cases ‹Arg› <;> exact h.elim
theorem ARs.len {K : PySem.W.Frag} {σ : L2.St} {G : Hp} : ∀ {as : List Arg} {vs : List V}, ARs K σ G as vs → vs.length = as.length
  | [], [], _ => rfl
  | _ :: as, _ :: vs, h => by rw [List.length_cons, List.length_cons, ARs.len h.2]
  | [], _ :: _, h => h.elim
  | _ :: _, [], h => h.elim
def tA (T : Tab) (K : PySem.W.Frag) (W : WX) (m : M (List Arg)) : TA := fun σ H Q => ∃ g G env ts fp, Stt K g G H env σ ts fp ∧ Aft T K W g ts σ G (fun as e G => ∀ vs G' H' fp', Ex G G' → Stt K g G' H' e σ ts fp' → ARs K σ G' as vs → Q vs H') (m env)
def t1 (T : Tab) (K : PySem.W.Frag) (W : WX) (m : M Arg) : TE := fun σ H Q => ∃ g G env ts fp, Stt K g G H env σ ts fp ∧ Aft T K W g ts σ G (fun a e G => ∀ v G' H' fp', Ex G G' → Stt K g G' H' e σ ts fp' → AR K σ G' a v → Q v H') (m env)
theorem s1_val (h : PE X a (tO T X.K W m)) : PE X a (t1 T X.K W (aVal m)) := pe_imp (se_fz h) fun σ H Q ⟨g, G, env, ts, fp, S, h⟩ => ⟨g, G, env, ts, fp, S, by
  have h := h.bnd
  show Aft _ _ _ _ _ _ _ _ (bnd m (fun o => pur o.frz) env)
  unfold MP.bnd
  cases q : m env with
  | ok o e => rw [q] at h; exact fun v G' H' fp' x S' dp => h v G' H' fp' x S' dp
  | exc x e => rw [q] at h; exact h
  | no => rw [q] at h; exact h⟩
theorem s1_name {i : Nat} {x : Str} (hN : X.N[i]? = some x) (hv : Vis X.env.scope x) (hd : (x == ("__debug__" : Str)) = false) (hcd : (x == ("__classdict__" : Str)) = false) : PE X (.Name x pos) (t1 T X.K W (mArg i)) :=
  pe_imp (pe_var hN hv hd hcd) fun σ H Q ⟨g, G, env, ts, fp, S, h⟩ => by
    unfold mArg at h
    cases e : env[i]? with
    | none => rw [e] at h; exact h.elim
    | some oo =>
      cases oo with
      | none => rw [e] at h; exact h.elim
      | some o =>
        obtain ⟨v, hv, r⟩ := S.get e
        refine ⟨v, hv, ?_⟩
        cases o with
        | val d => simp only [e] at h; exact h v G H fp (Ex.refl G) S (ro_val r).2
        | lst os => simp only [e] at h; exact h v G H fp (Ex.refl G) S hv
        | tup os => simp only [e] at h; exact h v G H fp (Ex.refl G) S hv
theorem sa_nil : PA X [] (tA T X.K W (mList [])) := pa_imp pa_nil fun σ H Q ⟨g, G, env, ts, fp, S, h⟩ => h [] G H fp (Ex.refl G) S trivial
theorem sa_cons {es : List Expr} {m1 : M Arg} {ms : List (M Arg)} (ha : PE X e (t1 T X.K W m1)) (hr : PA X es (tA T X.K W (mList ms))) (hs : starEach (e :: es) X.env = (false, eval e X.env) :: starEach es X.env) : PA X (e :: es) (tA T X.K W (mList (m1 :: ms))) :=
  pa_imp (pa_cons ha hr hs) fun σ H Q ⟨g, G, env, ts, fp, S, h⟩ => ⟨g, G, env, ts, fp, S, h.bnd.mono fun a1 e1 k v G1 H1 fp1 x S1 ar => ⟨g, G1, e1, ts, fp1, S1, (k.up x fun _ _ z vs G' H' fp' q => z vs G' H' fp' (x.trans q)).bnd.mono fun as e2 k2 vs G2 H2 fp2 x2 S2 ars =>
    k2 (v :: vs) G2 H2 fp2 x2 S2 ⟨by cases a1 with
      | val d => exact Dpm x2 ar
      | lend i => exact ar, ars⟩⟩⟩

theorem given_len {e : Env} : ∀ {as : List Arg} {os : List O}, given e as = some os → os.length = as.length
  | [], _, h => by cases h; rfl
  | .val d :: r, _, h => by
    have h : (given e r).map (O.val d :: ·) = some _ := h
    cases q : given e r with
    | none => rw [q] at h; cases h
    | some os => rw [q] at h; cases h; rw [List.length_cons, List.length_cons, given_len q]
  | .lend i :: r, _, h => by
    unfold given at h
    split at h
    · rename_i o _
      cases q : given e r with
      | none => rw [q] at h; cases h
      | some os => rw [q] at h; cases h; rw [List.length_cons, List.length_cons, given_len q]
    · cases h
theorem given_at {e : Env} : ∀ {as : List Arg} {os : List O} {j : Nat} {o : O}, given e as = some os → os[j]? = some o → (∃ d, as[j]? = some (.val d) ∧ o = .val d) ∨ ∃ i, as[j]? = some (.lend i) ∧ e[i]? = some (some o)
  | [], _, j, _, h, q => by cases h; simp at q
  | .val d :: r, _, j, o, h, q => by
    have h : (given e r).map (O.val d :: ·) = some _ := h
    cases q0 : given e r with
    | none => rw [q0] at h; cases h
    | some os =>
      rw [q0] at h; cases h
      cases j with
      | zero => simp at q; subst q; exact .inl ⟨d, rfl, rfl⟩
      | succ j => simpa using given_at (j := j) q0 (by simpa using q)
  | .lend i :: r, _, j, o, h, q => by
    unfold given at h
    split at h
    · rename_i o1 e1
      cases q0 : given e r with
      | none => rw [q0] at h; cases h
      | some os =>
        rw [q0] at h; cases h
        cases j with
        | zero => simp at q; subst q; exact .inr ⟨i, rfl, e1⟩
        | succ j => simpa using given_at (j := j) q0 (by simpa using q)
    · cases h
theorem ARs.at {K : PySem.W.Frag} {σ : L2.St} {G : Hp} : ∀ {as : List Arg} {vs : List V} {j : Nat} {a : Arg}, ARs K σ G as vs → as[j]? = some a → ∃ v, vs[j]? = some v ∧ AR K σ G a v
  | [], [], _, _, _, e => by simp at e
  | a :: as, v :: vs, 0, _, h, e => by simp at e; subst e; exact ⟨v, rfl, h.1⟩
  | a :: as, v :: vs, j + 1, _, h, e => by
    obtain ⟨w, h1, h2⟩ := ARs.at (j := j) h.2 (by simpa using e)
    exact ⟨w, by simpa using h1, h2⟩
  | [], _ :: _, _, _, h, _ => h.elim
  | _ :: _, [], _, _, h, _ => h.elim
/-- where a lent slot stands among the arguments -/
def posL (i : Nat) : List Arg → Option Nat
  | [] => none
  | .val _ :: r => (posL i r).map (· + 1)
  | .lend j :: r => if j = i then some 0 else (posL i r).map (· + 1)
theorem posL_at {i : Nat} : ∀ {as : List Arg} {j : Nat}, posL i as = some j → as[j]? = some (.lend i)
  | .val _ :: r, j, h => by
    have h : (posL i r).map (· + 1) = some j := h
    cases q : posL i r with
    | none => rw [q] at h; cases h
    | some k => rw [q] at h; cases h; simpa using posL_at q
  | .lend l :: r, j, h => by
    unfold posL at h
    split at h
    · rename_i e; subst e; cases h; rfl
    · cases q : posL i r with
      | none => rw [q] at h; cases h
      | some k => rw [q] at h; cases h; simpa using posL_at q
theorem posL_some {i : Nat} : ∀ {as : List Arg}, i ∈ lents as → ∃ j, posL i as = some j
  | .val _ :: r, h => by
    obtain ⟨j, e⟩ := posL_some (as := r) h
    exact ⟨j + 1, by show (posL i r).map (· + 1) = _; rw [e]; rfl⟩
  | .lend l :: r, h => by
    unfold posL
    by_cases q : l = i
    · exact ⟨0, by rw [if_pos q]⟩
    · rw [if_neg q]
      obtain ⟨j, e⟩ := posL_some (as := r) ((List.mem_cons.mp h).elim (fun z => absurd z.symm q) id)
      exact ⟨j + 1, by rw [e]; rfl⟩
theorem lents_at {i : Nat} : ∀ {as : List Arg} {j : Nat}, as[j]? = some (.lend i) → i ∈ lents as
  | [], _, h => by simp at h
  | .val _ :: r, 0, h => by simp at h
  | .val _ :: r, j + 1, h => lents_at (as := r) (j := j) (by simpa using h)
  | .lend l :: r, 0, h => by simp at h; subst h; exact List.mem_cons_self
  | .lend l :: r, j + 1, h => List.mem_cons_of_mem _ (lents_at (as := r) (j := j) (by simpa using h))
theorem posL_of {i : Nat} : ∀ {as : List Arg} {j : Nat}, (lents as).Nodup → as[j]? = some (.lend i) → posL i as = some j
  | [], _, _, h => by simp at h
  | .val _ :: r, 0, _, h => by simp at h
  | .val _ :: r, j + 1, nd, h => by
    show (posL i r).map (· + 1) = _
    rw [posL_of (as := r) (j := j) nd (by simpa using h)]; rfl
  | .lend l :: r, 0, _, h => by simp at h; subst h; unfold posL; rw [if_pos rfl]
  | .lend l :: r, j + 1, nd, h => by
    have h : r[j]? = some (.lend i) := by simpa using h
    have nd : (l :: lents r).Nodup := nd
    have hm := lents_at h
    unfold posL
    have hne : ¬ l = i := by intro z; subst z; exact (List.nodup_cons.mp nd).1 hm
    rw [if_neg hne, posL_of (List.nodup_cons.mp nd).2 h]; rfl
theorem taken_len : ∀ (as : List Arg) (fin : List (Option O)) (e : Env), (taken as fin e).length = e.length
  | [], _, _ => by unfold taken; rfl
  | .val _ :: r, [], _ => by unfold taken; rfl
  | .val _ :: r, _ :: xs, e => by unfold taken; exact taken_len r xs e
  | .lend _ :: r, [], _ => by unfold taken; rfl
  | .lend i :: r, x :: xs, e => by unfold taken; rw [taken_len r xs]; exact List.length_set ..
theorem taken_out {i : Nat} : ∀ (as : List Arg) (fin : List (Option O)) (e : Env), i ∉ lents as → (taken as fin e)[i]? = e[i]?
  | [], _, _, _ => by unfold taken; rfl
  | .val _ :: r, [], _, _ => by unfold taken; rfl
  | .val _ :: r, _ :: xs, e, h => by unfold taken; exact taken_out r xs e h
  | .lend _ :: r, [], _, _ => by unfold taken; rfl
  | .lend j :: r, x :: xs, e, h => by
    unfold taken
    have h : i ∉ j :: lents r := h
    have hne : ¬ j = i := by intro z; subst z; exact h List.mem_cons_self
    rw [taken_out r xs _ fun z => h (List.mem_cons_of_mem _ z), List.getElem?_set_ne hne]
theorem taken_in {i : Nat} : ∀ (as : List Arg) (fin : List (Option O)) (e : Env) {j : Nat}, (lents as).Nodup → fin.length = as.length → as[j]? = some (.lend i) → i < e.length → (taken as fin e)[i]? = fin[j]?
  | [], _, _, _, _, _, h, _ => by simp at h
  | .val _ :: r, [], _, _, _, hl, _, _ => by simp at hl
  | .val _ :: r, _ :: xs, e, 0, _, _, h, _ => by simp at h
  | .val _ :: r, _ :: xs, e, j + 1, nd, hl, h, hi => by unfold taken; simpa using taken_in r xs e (j := j) nd (by simpa using hl) (by simpa using h) hi
  | .lend _ :: r, [], _, _, _, hl, _, _ => by simp at hl
  | .lend k :: r, x :: xs, e, 0, nd, hl, h, hi => by
    simp at h; subst h
    have nd : (k :: lents r).Nodup := nd
    unfold taken
    rw [taken_out r xs _ (List.nodup_cons.mp nd).1, List.getElem?_set_self hi]; rfl
  | .lend k :: r, x :: xs, e, j + 1, nd, hl, h, hi => by
    have nd : (k :: lents r).Nodup := nd
    unfold taken
    rw [taken_in r xs _ (j := j) (List.nodup_cons.mp nd).2 (by simpa using hl) (by simpa using h) (by rw [List.length_set]; exact hi)]; rfl
section
variable {K : PySem.W.Frag} {g : Gh} {G H : Hp} {env : Env} {σ : L2.St} {ts : Tmp} {fp : Ix → List Addr}
/-- the callee's state at its entry -/
theorem Stt.callee (S : Stt K g G H env σ ts fp) {as : List Arg} {os : List O} {vs : List V} (hg : given env as = some os) (nd : (lents as).Nodup) (ar : ARs K σ G as vs) :
    ∃ fpc, Stt K ⟨G, H, fun a => ∃ i ∈ lents as, a ∈ fp (.s i), vs.map some⟩ G H (os.map some) (vs.map some) [] fpc := by
  have hl : vs.length = os.length := by rw [ar.len, given_len hg]
  refine ⟨fun ix => match ix with
    | .s j => match as[j]? with
      | some (.lend i) => fp (.s i)
      | _ => []
    | .t _ => [], ⟨by simp [hl], fun j o h => ?_, S.sub, fun ix o v h => ?_, fun ix => ?_, fun ix jx a h1 h2 => ?_, fun ix a h => ?_, fun b u h _ => h, fun b h => h, Ex.refl G, fun a h => .inl h, fun _ _ _ h => h⟩⟩
  · rw [List.getElem?_map] at h
    cases q : os[j]? with
    | none => rw [q] at h; cases h
    | some o' =>
      have hj := (List.getElem?_eq_some_iff.mp q).1
      exact ⟨vs[j]'(by omega), by rw [List.getElem?_map, List.getElem?_eq_getElem (by omega)]; rfl⟩
  · cases ix with
    | t j => exact absurd h (by show ([] : Tmp)[j]? ≠ _; simp)
    | s j =>
      obtain ⟨h1, h2⟩ := att_of h
      rw [List.getElem?_map] at h1 h2
      cases q : os[j]? with
      | none => rw [q] at h1; cases h1
      | some o' =>
        rw [q] at h1; cases h1
        cases q2 : vs[j]? with
        | none => rw [q2] at h2; cases h2
        | some v' =>
          rw [q2] at h2; cases h2
          rcases given_at hg q with ⟨d, e1, rfl⟩ | ⟨i, e1, e2⟩
          · obtain ⟨w, e3, e4⟩ := ar.at e1
            rw [q2] at e3; cases e3
            simp only [e1]
            exact .val e4
          · obtain ⟨w, e3, e4⟩ := ar.at e1
            rw [q2] at e3; cases e3
            simp only [e1]
            exact S.rep _ _ _ (att_is e2 e4)
  · cases ix with
    | t j => exact List.nodup_nil
    | s j =>
      dsimp only
      split
      · exact S.nd _
      · exact List.nodup_nil
  · cases ix with
    | t j => cases h1
    | s j => cases jx with
      | t k => cases h2
      | s k =>
        dsimp only at h1 h2
        split at h1
        · rename_i i e1
          split at h2
          · rename_i i2 e2
            have := S.dj _ _ a h1 h2
            injection this with this
            subst this
            have p1 := posL_of nd e1
            rw [posL_of nd e2] at p1
            cases p1; rfl
          · cases h2
        · cases h1
  · cases ix with
    | t j => cases h
    | s j =>
      dsimp only at h
      split at h
      · rename_i i e1
        obtain ⟨h1, h2, _⟩ := S.ow _ a h
        exact ⟨h1, h2, .inl ⟨i, lents_at e1, h⟩⟩
      · cases h
/-- behind it -/
theorem Stt.called (S : Stt K g G H env σ ts fp) {as : List Arg} {os : List O} {vs : List V} {G' H' : Hp} {fin : List (Option O)} {ts' : Tmp} {fp' : Ix → List Addr} (hg : given env as = some os) (nd : (lents as).Nodup) (ar : ARs K σ G as vs) (hf : fin.length = as.length)
    {S00 : L2.St} (S' : Stt K ⟨G, H, fun a => ∃ i ∈ lents as, a ∈ fp (.s i), S00⟩ G' H' fin (vs.map some) ts' fp') : ∃ fpA, Stt K g G' H' (taken as fin env) σ (ts ++ ts') fpA := by
  have lend_slot : ∀ {j i : Nat}, as[j]? = some (.lend i) → i < env.length ∧ ∃ v, vs[j]? = some v ∧ σ[i]? = some (some v) := fun {j i} h => by
    obtain ⟨v, e1, e2⟩ := ar.at h
    have hj := (List.getElem?_eq_some_iff.mp h).1
    have hlo := given_len hg
    have ho : os[j]? = some (os[j]'(by omega)) := List.getElem?_eq_getElem _
    rcases given_at hg ho with ⟨d, z, _⟩ | ⟨i2, z, e3⟩
    · rw [h] at z; cases z
    · rw [h] at z; cases z
      exact ⟨(List.getElem?_eq_some_iff.mp e3).1, v, e1, e2⟩
  refine S.frame S' (fun ix => ∃ i ∈ lents as, ix = .s i) (fun a ⟨i, hi, ha⟩ => ⟨.s i, ⟨i, hi, rfl⟩, ha⟩)
    (fun ix => match ix with
      | .s i => match posL i as with
        | some j => .inl (.s j)
        | none => .inr (.s i)
      | .t n => if n < ts.length then .inr (.t n) else .inl (.t (n - ts.length))) (fun ix jx h => ?_) (by rw [taken_len]; exact S.len) (fun i o h => ?_) fun ix o v h => ?_
  · cases ix with
    | s i => cases jx with
      | s k =>
        dsimp only at h
        cases q1 : posL i as with
        | none => cases q2 : posL k as with
          | none => rw [q1, q2] at h; injection h
          | some j2 => rw [q1, q2] at h; cases h
        | some j1 => cases q2 : posL k as with
          | none => rw [q1, q2] at h; cases h
          | some j2 =>
            rw [q1, q2] at h
            injection h with h; injection h with h
            subst h
            have a1 := posL_at q1
            rw [posL_at q2] at a1
            cases a1; rfl
      | t n =>
        dsimp only at h
        split at h <;> split at h <;> (try cases h)
    | t m => cases jx with
      | s k =>
        dsimp only at h
        split at h <;> split at h <;> (try cases h)
      | t n =>
        dsimp only at h
        split at h <;> split at h
        · injection h
        · cases h
        · cases h
        · injection h with h; injection h with h
          have : m = n := by omega
          rw [this]
  · by_cases hm : i ∈ lents as
    · obtain ⟨j, e⟩ := posL_some hm
      obtain ⟨_, v, _, e2⟩ := lend_slot (posL_at e)
      exact ⟨v, e2⟩
    · rw [taken_out _ _ _ hm] at h; exact S.has i o h
  · cases ix with
    | s i =>
      obtain ⟨h1, h2⟩ := att_of h
      by_cases hm : i ∈ lents as
      · obtain ⟨j, e⟩ := posL_some hm
        obtain ⟨hi, w, e1, e2⟩ := lend_slot (posL_at e)
        rw [taken_in _ _ _ nd hf (posL_at e) hi] at h1
        rw [h2] at e2; cases e2
        refine .inl ⟨.s j, by simp only [e], att_is h1 (by rw [List.getElem?_map, e1]; rfl)⟩
      · rw [taken_out _ _ _ hm] at h1
        have e : posL i as = none := by
          cases q : posL i as with
          | none => rfl
          | some j => exact absurd (lents_at (posL_at q)) hm
        refine .inr (.inl ⟨.s i, by simp only [e], ?_, att_is h1 h2⟩)
        rintro ⟨k, hk, z⟩
        cases z; exact hm hk
    | t n =>
      have h : (ts ++ ts')[n]? = some (o, v) := h
      rw [List.getElem?_append] at h
      by_cases hn : n < ts.length
      · rw [if_pos hn] at h
        refine .inr (.inl ⟨.t n, by simp only [if_pos hn], ?_, h⟩)
        rintro ⟨k, hk, z⟩
        cases z
      · rw [if_neg hn] at h
        exact .inl ⟨.t (n - ts.length), by simp only [if_neg hn], h⟩
end
end
end MP

set_option Elab.async false
set_option linter.all false
set_option maxRecDepth 100000
set_option maxHeartbeats 4000000
namespace MP
open PySem PySem.Spec PyProof.Rows L2

/-- a def of the text keeps its promise, by its body -/
theorem fnG_of {cx : CXT} {P : Program} {w : World} {K : PySem.W.Frag} {mg : Str → Option Value} {base : Heap} {k : Nat} {f : Addr} {nm qual : Str} {prm : Arguments} {body : List Stmt} {sc : Scope} {dV kV doc pm cdv ct oc : Value} {an od : Option Addr}
    {osl : Array (Option Value)} {N ps : List Str} {sp : Sp} (lk : K.lookup f = some ⟨oc, od, .func (PySem.W.fnOf nm qual prm body sc dV kV doc pm an cdv ct), osl⟩) (code : PySem.W.codeIn K cdv qual = true) (S : FnScope N ps sc)
    (hn : ∀ vs H Q E, sp vs H Q E → vs.length = ps.length)
    (go : ∀ (A : Around) (outer : List PySem.Env) (s : Shared) (H : Hp) (vs : List V) (Q : VK) (E : XK), Room k (A.deeper (envOfC qual sc s.heap.objs.size f cdv)) → A.guards = some [] → sp vs H Q E →
      ∃ t, PSs (cxOf cx P w K mg base N qual sc f cdv A outer s H E) body t ∧ t { nx := fun _ H1 => Q .non H1, rt := Q } (L2.start N vs) H) :
    FnG P w K mg base cx (k + 1) f (PySem.W.fnOf nm qual prm body sc dV kV doc pm an cdv ct) ps sp := by
  constructor
  · exact hn
  · intro A outer s H args us vs Q E room grd e0 bnd rel prom
    have inK := e0.mod.kin.keeps (h' := s.heap) fun b o e => (e0.bs b o e).1
    have noL := e0.mod.nolimit.keeps (h' := s.heap) fun b o e => (e0.bs b o e).1
    apply codeAny_call_function room.depth (inK _ _ lk) rfl S.co S.gen rfl (PySem.W.codeRec_of inK code)
    apply bnd
    apply wpAny_newFunctionEnv_cells S.kind
    · rintro ⟨n, v⟩ hy
      cases S.par n (List.of_mem_zip hy).1 with
      | inl q => exact .inl q
      | inr q => exact .inr ⟨q, PySem.W.cellsFrom_some _ _ _ (.inl q)⟩
    · intro env he s1 x
      subst he
      obtain ⟨t, ht, hq⟩ := go A outer s H vs Q E (room.deeper _) grd prom
      have I := inv_start (CX := cx) (E := E) S room.hd e0 (hn _ _ _ _ prom) rel x
      refine ⟨noL.keeps x.toInCall.keep, codeAny_func (wpAny_mono (ht.run [] s1 _ H _ I hq) ?_ fun _ _ z => z)⟩
      intro fl s2 h2
      cases fl with
      | ret u => obtain ⟨v, _, H2, J, rv, q⟩ := h2; exact ⟨v, H2, J.os, J.bare, J.base, J.hok, rv, q⟩
      | next => obtain ⟨_, H2, J, q⟩ := h2; exact ⟨.non, H2, J.os, J.bare, J.base, J.hok, rfl, q⟩
      | brk => exact h2.elim fun _ z => z.elim fun _ z => z.2.elim
      | cont => exact h2.elim fun _ z => z.elim fun _ z => z.2.elim

section
variable {X : Cx} {cx : CXT} {k : Nat} {f : Addr} {fd : FuncData} {ps ks : List Str} {sp : Sp} {E : L2.St → XK} {x : Str} {p pos : Pos} {e : Expr} {es : List Expr} {kws : List Keyword} {t tk : TA} {dvs : List V} {ds : List Value}
/-- the callee runs; what it lets out is wished for at the caller's slots -/
theorem run_G {args : Args} {pins : List (Addr × Obj)} {σ : L2.St} {H : Hp} {s : Shared} {Q : VK} {us : List Value} {vs : List V} (F : FnG X.prog X.w X.K X.mg X.base cx k f fd ps sp) (room : Room k X.A) (grd : X.A.guards = some []) (hx : PassesAt cx X σ (E σ))
    (I : Inv X pins σ H s) (hb : us.length = ps.length → BindsTo s fd args (ps.zip us)) (r : Vals vs us) (h : sp vs H Q (E σ)) : wpAny (model X.prog X.w) X.A (call (.ref f) args.pos args.kw) (EP X pins σ Q) X.xe s := by
  have hl : us.length = ps.length := r.length.symm.trans (F.len _ _ _ _ h)
  refine wpAny_call (codeAny_mono (F.run X.A X.stack s H args us vs Q (E σ) room grd I.env0 (hb hl) r h) ?_)
  rintro (er | fl) s2 h2
  · exact hx pins H s er s2 I h2
  · cases fl with
    | ret u => exact I.after h2
    | next => exact h2.elim
    | brk => exact h2.elim
    | cont => exact h2.elim
theorem pe_callG (F : FnG X.prog X.w X.K X.mg X.base cx k f fd ps sp) (room : Room k X.A) (grd : X.A.guards = some []) (hg : Gl X x) (hm : X.mg x = some (.ref f)) (keep : PySem.W.keepIn X.K (.ref f) = true) (hb : Binds X.K fd ps ds) (hd : Vals dvs ds) (hx : ∀ σ, PassesAt cx X σ (E σ))
    (ha : PA X (e :: es) t) (hdb : (x == ("__debug__" : Str)) = false) (he : starEach (e :: es) X.env = (false, eval e X.env) :: starEach es X.env) (hpl : (backTo pos (starEach es X.env)).any (·.1) = false) :
    PE X (.Call (.Name x p) (e :: es) [] pos) (tCallSD sp dvs E t) := by
  constructor
  intro pins s σ H Q I h
  apply wpAny_Call_Name_kw
  refine ld_glob I hg hm ?_ hdb
  refine PySem.W.callWith_K (h₀ := X.base) I.ok.mod.kin keep (thn (ha.run pos pins s σ H _ I h) ?_) he hpl
  rintro us s1 ⟨vs, H1, I1, r, q⟩
  exact ⟨I1.kIn, run_G (args := ⟨us, []⟩) F room grd (hx σ) I1 (fun hl => hb s1 us I1.kIn hl) (r.append hd) q⟩
theorem pe_callG0 (F : FnG X.prog X.w X.K X.mg X.base cx k f fd ps sp) (room : Room k X.A) (grd : X.A.guards = some []) (hg : Gl X x) (hm : X.mg x = some (.ref f)) (keep : PySem.W.keepIn X.K (.ref f) = true) (hb : Binds X.K fd ps ds) (hd : Vals dvs ds) (hx : ∀ σ, PassesAt cx X σ (E σ))
    (hdb : (x == ("__debug__" : Str)) = false) : PE X (.Call (.Name x p) [] [] pos) (tCallSD sp dvs E tNil) := by
  constructor
  intro pins s σ H Q I h
  apply wpAny_Call_Name_kw
  refine ld_glob I hg hm ?_ hdb
  exact PySem.W.callWith_K0 I.kIn keep (run_G (args := ⟨[], []⟩) F room grd (hx σ) I (fun hl => hb s [] I.kIn hl) (r := Vals.append .nil hd) h)
def tCallKG (sp : Sp) (E : L2.St → XK) (t tk : TA) : TE := fun σ H Q => t σ H fun vs H1 => tk σ H1 fun zs H2 => sp (vs ++ zs) H2 Q (E σ)
/-- f(e, .., k = v, ..), the keywords behind the others, in order -/
theorem pe_callGK (F : FnG X.prog X.w X.K X.mg X.base cx k f fd ps sp) (room : Room k X.A) (grd : X.A.guards = some []) (hg : Gl X x) (hm : X.mg x = some (.ref f)) (keep : PySem.W.keepIn X.K (.ref f) = true)
    (hb : ∀ (us ws : List Value), (us ++ ws).length = ps.length → ws.length = ks.length → bindArgs fd ⟨us, ks.zip ws⟩ = pure (ps.zip (us ++ ws))) (hx : ∀ σ, PassesAt cx X σ (E σ)) (hkl : kws.length = ks.length)
    (ha : PA X (e :: es) t) (hkw : PK X kws tk) (htk : ∀ σ H Q, tk σ H Q → tk σ H fun zs H1 => zs.length = ks.length ∧ Q zs H1) (hall : (backToKw pos (keywordEach kws X.env)).all (·.1.isSome) = true) (hks : (backToKw pos (keywordEach kws X.env)).filterMap (·.1) = ks)
    (hdb : (x == ("__debug__" : Str)) = false) (he : starEach (e :: es) X.env = (false, eval e X.env) :: starEach es X.env)
    (hpl : ((backTo pos (starEach (e :: es) X.env)).any (·.1) || (backToKw pos (keywordEach kws X.env)).any (·.1.isNone)) = false) :
    PE X (.Call (.Name x p) (e :: es) kws pos) (tCallKG sp E t tk) := by
  constructor
  intro pins s σ H Q I h
  apply wpAny_Call_Name_kw
  refine ld_glob I hg hm ?_ hdb
  refine PySem.W.callWith_KW (h₀ := X.base) I.ok.mod.kin keep hall (thn (ha.run pos pins s σ H _ I h) ?_) hpl he
  rintro us s1 ⟨vs, H1, I1, r, q⟩
  refine thn (hkw.run pos pins s1 σ H1 _ I1 (htk _ _ _ q)) ?_
  rintro ws s2 ⟨zs, H2, I2, rz, lz, q2⟩
  rw [hks]
  exact ⟨I2.kIn, run_G (args := ⟨us, ks.zip ws⟩) F room grd (hx σ) I2 (fun hl => .of_eq (hb us ws hl (rz.length.symm.trans lz))) (r.append rz) q2⟩
end

theorem spF_len {T : Tab} {K : PySem.W.Frag} {n : Nat} {den : List O → FOut} : ∀ vs H Q E, spF T K n den vs H Q E → vs.length = n := fun _ _ _ _ h => h.1
section
variable {X : Cx} {T : Tab} {W : WX}
theorem called_ok {K : PySem.W.Frag} {g : Gh} {G H : Hp} {env : Env} {σ : L2.St} {ts : Tmp} {fp : Ix → List Addr} {den : Den} {fn : Str} {as : List Arg} {vs : List V} {n : Nat} {Q : VK} (S : Stt K g G H env σ ts fp) (ar : ARs K σ G as vs) (hn : as.length = n)
    (h : Aft T K W g ts σ G (PO K g ts σ Q) (callM den fn as env)) : spF T K n (den fn) vs H Q (WE W σ) := by
  unfold callM at h
  cases hg : given env as with
  | none => rw [hg] at h; exact h.elim
  | some os =>
    simp only [hg] at h
    by_cases nd : (lents as).Nodup
    · rw [if_pos nd] at h
      obtain ⟨fpc, Sc⟩ := S.callee hg nd ar
      refine ⟨ar.len.trans hn, G, _, os, fpc, Sc, ?_⟩
      cases hd : den fn os with
      | no => rw [hd] at h; exact h.elim
      | ok o fin =>
        simp only [hd] at h
        by_cases hf : fin.length = as.length
        · rw [if_pos hf] at h
          intro v G1 H1 fp1 x S1
          obtain ⟨fpA, SA⟩ := S.called hg nd ar hf S1
          exact h v G1 H1 fpA x SA
        · rw [if_neg hf] at h; exact h.elim
      | exc y fin =>
        simp only [hd] at h
        by_cases hf : fin.length = as.length
        · rw [if_pos hf] at h
          intro cls d G1 H1 fp1 x S1 xr
          obtain ⟨fpA, SA⟩ := S.called hg nd ar hf S1
          rw [List.append_nil] at SA
          exact h cls d G1 H1 fpA x SA xr
        · rw [if_neg hf] at h; exact h.elim
    · rw [if_neg nd] at h; exact h.elim
theorem ARs.app {K : PySem.W.Frag} {σ : L2.St} {G : Hp} : ∀ {as bs : List Arg} {vs ws : List V}, ARs K σ G as vs → ARs K σ G bs ws → ARs K σ G (as ++ bs) (vs ++ ws)
  | [], _, [], _, _, h => h
  | _ :: _, _, _ :: _, _, h, k => ⟨h.1, ARs.app h.2 k⟩
  | [], _, _ :: _, _, h, _ => h.elim
  | _ :: _, _, [], _, h, _ => h.elim
theorem ARs.vals {K : PySem.W.Frag} {σ : L2.St} {G : Hp} : ∀ {ds : List D} {vs : List V}, DpAll K G vs ds → ARs K σ G (ds.map Arg.val) vs
  | [], _, h => by cases h; exact trivial
  | d :: ds, _, h => by cases h with | cons a t => exact ⟨a, ARs.vals t⟩
/-- f(.., ..), df the defaults that fill up -/
def mCallD (den : Den) (f : Str) (n : Nat) (ms : List (M Arg)) (df : List D) : M O := bnd (mList ms) fun as => if as.length + df.length = n then callM den f (as ++ df.map Arg.val) else bad
theorem se_callD {den : Den} {fn : Str} {n : Nat} {ms : List (M Arg)} {df : List D} {dvs : List V} {t : TA} {e : Expr} (hd : ∀ G, DpAll X.K G dvs df) (ha : ∀ σ H Q, tA T X.K W (mList ms) σ H Q → t σ H Q) (h : PE X e (tCallSD (spF T X.K n (den fn)) dvs (fun σ => WE W σ) t)) :
    PE X e (tO T X.K W (mCallD den fn n ms df)) :=
  pe_imp h fun σ H Q ⟨g, G, env, ts, fp, S, h⟩ => ha _ _ _ ⟨g, G, env, ts, fp, S, h.bnd.mono fun as e1 k vs G1 H1 fp1 x S1 ar => by
    have k1 := k.up x fun _ _ => PO.up x
    by_cases hn : as.length + df.length = n
    · rw [if_pos hn] at k1
      exact called_ok S1 (ar.app (ARs.vals (hd G1))) (by simp [hn]) k1
    · rw [if_neg hn] at k1; exact k1.elim⟩
def mCallK (den : Den) (f : Str) (n : Nat) (ms zs : List (M Arg)) : M O := bnd (mList ms) fun as => bnd (mList zs) fun bs => if as.length + bs.length = n then callM den f (as ++ bs) else bad
end
end MP

set_option Elab.async false
set_option linter.all false
set_option maxRecDepth 100000
set_option maxHeartbeats 4000000
namespace MP
open PySem PySem.Spec PyProof.Rows L2

theorem enum_made {v : Value} {o : Obj} {Hc : Heap → Prop} (B : Begins v o Hc) :
    Meets (Builtin.«enumerate.__new__» ⟨[.type "enumerate", v], []⟩) (fun _ R s => Hc s.heap ∧
      R (.ok (.ret (.ref (s.heap.push o).objs.size))) { s with heap := (s.heap.push o).push { cls := .type "enumerate", data := .fields #[.none, .bool false, .ref s.heap.objs.size, rawInt 0, .none, .none] } }) :=
  .of_wp fun prog w A R s h => by
    obtain ⟨h0, gs, dr, n, os⟩ := s
    obtain ⟨c1, fin⟩ := h
    have hsub := sub_enumerate
    have it : ∀ {A' : Around} {E : Value → Shared → Prop} {Q : Value → Shared → Prop}, Q (.ref h0.objs.size) ⟨h0.push o, gs, dr, n, os⟩ → wpAny (model prog w) A' (pyIter v) Q E ⟨h0, gs, dr, n, os⟩ :=
      fun q => B.iter prog w _ _ ⟨h0, gs, dr, n, os⟩ _ c1 q
    wp_walk using it
    refine wpAny_stack_any fun st => wpAny_pure ?_
    split
    · rename_i c _ _ _ _ _
      cases (c == Value.type "enumerate") <;> (wp_walk using it) <;> exact ⟨_, rfl, fin⟩
    · wp_walk using it
      exact ⟨_, rfl, fin⟩
theorem enum_call {prog : Program} {w : World} {A : Around} {E : Value → Shared → Prop} {s : Shared} {v : Value} {o : Obj} {Hc : Heap → Prop} {Q : Value → Shared → Prop} (B : Begins v o Hc) (h1 : Hc s.heap)
    (h : ∀ h', IsEnum h' (s.heap.objs.size + 1) s.heap.objs.size 0 .none → h'.get? s.heap.objs.size = some o → h'.objs.size = s.heap.objs.size + 2 →
      (∀ b ob, s.heap.get? b = some ob → h'.get? b = some ob) → Q (.ref (s.heap.objs.size + 1)) { s with heap := h' }) : wpAny (model prog w) A (call (.type "enumerate") [v]) Q E s := by
  apply callType_new F.called_enumerate (by decide) (F.typeCall_enumerate_1 _) (F.newCall_enumerate_1 _) (fun obj => F.args_object_init_2 obj _) F.entry_enumerate_new (enum_made B)
  refine ⟨h1, ?_⟩
  generalize hn : (s.heap.push o).objs.size = n
  have z : n = s.heap.objs.size + 1 := by rw [← hn]; exact Heap.size_push ..
  subst z
  have he : IsEnum ((s.heap.push o).push { cls := .type "enumerate", data := .fields #[.none, .bool false, .ref s.heap.objs.size, rawInt 0, .none, .none] }) (s.heap.objs.size + 1) s.heap.objs.size 0 .none := by
    rw [← hn]; exact Heap.get?_push_size _ rfl
  exact ⟨⟨_, he, rfl⟩, h _ he (Heap.get?_push_of_some _ (Heap.get?_push_size _ B.free)) (by rw [Heap.size_push, hn]) fun b ob e => Heap.get?_push_of_some _ (Heap.get?_push_of_some _ e)⟩

def ityp : D → String
  | .list _ => "list_iterator"
  | .tuple _ => "tuple_iterator"
  | .str x => strIterType x
  | _ => ""
def srcA : Value → List Addr
  | .ref a => [a]
  | _ => []
def StI (ty : String) (u : Value) (it : Addr) (i : Nat) (h : Heap) : Prop := ∃ o, h.get? it = some o ∧ o.cls = .type ty ∧ o.data = .fields #[u, .int i 0]
theorem StI.keep {ty : String} {u : Value} {it : Addr} {i : Nat} {h h' : Heap} (s : StI ty u it i h) (k : ∀ o, h.get? it = some o → h'.get? it = some o) : StI ty u it i h' := let ⟨o, e, r⟩ := s; ⟨o, k o e, r⟩
theorem vals_at : ∀ {xs : List V} {us : List Value} {i : Nat} {u : Value}, Vals xs us → us[i]? = some u → ∃ x, xs[i]? = some x ∧ RelV x u
  | _, _, _, _, .nil, e => by simp at e
  | _, _, 0, _, .cons h t, e => by simp at e; subst e; exact ⟨_, rfl, h⟩
  | _, _, i + 1, _, .cons h t, e => by
    obtain ⟨x, h1, h2⟩ := vals_at (i := i) t (by simpa using e)
    exact ⟨x, by simpa using h1, h2⟩
structure Feed (prog : Program) (w : World) (K : PySem.W.Frag) (H : Hp) (h : Heap) (vv : V) (u : Value) (d : D) (ds : List D) (P : Nat → Value → Prop) (Hc : Heap → Prop) : Prop where
  beg : Begins u { cls := .type (ityp d), data := .fields #[u, .int 0 0] } Hc
  now : Hc h
  drw : ∀ (A : Around) (it : Addr), A.handled = none → it ∉ srcA u → Draws prog w A it (it :: srcA u) ds.length P (fun i h => StI (ityp d) u it i h ∧ Hc h)
  itm : ∀ i v, P i v → ∃ x di, ds[i]? = some di ∧ RelV x v ∧ ∀ G, Ex G H → Dp K G vv d → Dp K G x di
  src : ∀ b ∈ srcA u, b < h.objs.size
theorem feed {X : Cx} {pins : List (Addr × Obj)} {σ : L2.St} {G H : Hp} {s : Shared} {vv : V} {u : Value} {d : D} {ds : List D} (I : Inv X pins σ H s) (e : Ex G H) (dp : Dp X.K G vv d) (hs : seqR d = some ds) (r : RelV vv u) :
    ∃ P Hc, Feed X.prog X.w X.K H s.heap vv u d ds P Hc := by
  cases d with
  | list l =>
    have hs : l = ds := Option.some.inj hs
    subst hs
    cases dp with
    | @lst a xs _ hq ha =>
      obtain rfl : u = Value.ref a := r
      obtain ⟨its, rv, p, _⟩ := I.list (e.sql hq)
      have hl : its.toArray.size = l.length := by rw [List.size_toArray, ← rv.length, dps_len ha]
      refine ⟨fun i v => its.toArray[i]? = some v, fun h => h.IsList a its.toArray, begins_list a its.toArray, p.isList, fun A it hA hn => ?_, fun i v hv => ?_, fun b hb => ?_⟩
      · rw [← hl]; exact Draws.list hA it a (fun z => hn (by rw [z]; exact List.mem_cons_self)) its.toArray
      · obtain ⟨x, hx, rx⟩ := vals_at rv (by simpa using hv)
        obtain ⟨di, hdi, _⟩ := dps_getv ha hx
        refine ⟨x, di, hdi, rx, fun G' e' dp' => ?_⟩
        cases dp' with
        | @lst _ xs' _ hq' ha' =>
          have := I.list_inj (e.sql hq) (e'.sql hq')
          subst this
          obtain ⟨v', q1, q2⟩ := dps_get ha' hdi
          rw [hx] at q1; cases q1; exact q2
      · have : b = a := by simpa [srcA] using hb
        subst this; exact p.lt
  | tuple l =>
    have hs : l = ds := Option.some.inj hs
    subst hs
    cases dp with
    | @tup a xs _ hq ha =>
      obtain rfl : u = Value.ref a := r
      obtain ⟨its, rv, p, _⟩ := I.tuple (e.sqt hq)
      have hl : its.toArray.size = l.length := by rw [List.size_toArray, ← rv.length, dps_len ha]
      refine ⟨fun i v => its.toArray[i]? = some v, fun h => h.IsTuple a its.toArray, begins_tuple a its.toArray, p, fun A it hA hn => ?_, fun i v hv => ?_, fun b hb => ?_⟩
      · rw [← hl]; exact Draws.tuple hA it a (fun z => hn (by rw [z]; exact List.mem_cons_self)) its.toArray
      · obtain ⟨x, hx, rx⟩ := vals_at rv (by simpa using hv)
        obtain ⟨di, hdi, _⟩ := dps_getv ha hx
        refine ⟨x, di, hdi, rx, fun G' e' dp' => ?_⟩
        cases dp' with
        | @tup _ xs' _ hq' ha' =>
          have := I.tuple_inj (e.sqt hq) (e'.sqt hq')
          subst this
          obtain ⟨v', q1, q2⟩ := dps_get ha' hdi
          rw [hx] at q1; cases q1; exact q2
      · have : b = a := by simpa [srcA] using hb
        subst this
        obtain ⟨o, ho, _⟩ := p
        exact Heap.lt_size ho
  | str x =>
    have hs : x.cps.toList.map (fun c => PyData.str ⟨#[c]⟩) = ds := Option.some.inj hs
    subst hs
    cases dp
    obtain ⟨t, rfl⟩ := r
    have hl : x.cps.size = (x.cps.toList.map (fun c => PyData.str ⟨#[c]⟩)).length := by simp
    refine ⟨fun i v => ∃ c u, x.cps[i]? = some c ∧ v = .str ⟨#[c]⟩ u, fun _ => True, begins_text x t, trivial, fun A it hA _ => ?_, fun i v ⟨c, u, hc, hv⟩ => ?_, fun b hb => by cases hb⟩
    · rw [← hl]
      have D := Draws.text (prog := X.prog) (w := X.w) hA it x t
      exact ⟨fun i h st => D.live i h st.1, fun i h h' st k => ⟨D.frame i h h' st.1 k, trivial⟩, fun i s Q E hi st hQ => D.item i s Q E hi st.1 fun x h' tk a b c => hQ x h' tk a ⟨b, trivial⟩ c, fun s Q E st hQ => D.done s Q E st.1 hQ⟩
    · refine ⟨.str ⟨#[c]⟩, .str ⟨#[c]⟩, by simp [hc], ⟨u, hv⟩, fun _ _ _ => .str _⟩
  | none => cases hs
  | bool b => cases hs
  | int i => cases hs
  | dict r => cases hs

/-- at its turns J yields just ds -/
def Wk (K : PySem.W.Frag) (J : It) (ds : List D) (G : Hp) : Prop := ∀ G1 H (i : Nat), Ex G G1 → Ex G1 H → (∀ d, ds[i]? = some d → J.go i H ∧ ∀ x H', J.yld i H x H' → ∃ G2, Grow G1 H G2 H' ∧ Dp K G2 x d) ∧ (i = ds.length → J.stop i H)
def tI (T : Tab) (K : PySem.W.Frag) (W : WX) (m : Itm) : TI := fun σ H R => ∃ g G env ts fp, Stt K g G H env σ ts fp ∧ Aft T K W g ts σ G (fun ds e G1 => ∀ J G2 H2 fp2, Ex G1 G2 → Stt K g G2 H2 e σ ts fp2 → Wk K J ds G2 → R J H2) (m env)
theorem wk_list {K : PySem.W.Frag} {G : Hp} {a : Addr} {ds : List D} (h : Dp K G (.ref a) (.list ds)) : Wk K (Itl K a) ds G := fun G1 H i x1 x2 => by
  cases Dpm x1 h with
  | lst hq ha =>
    refine ⟨fun d hd => ?_, fun hi => ⟨_, x2.sql hq, by rw [dps_len ha, hi]; exact Nat.le_refl _⟩⟩
    obtain ⟨v, hv, dp⟩ := dps_get ha hd
    refine ⟨⟨_, v, x2.sql hq, hv⟩, fun x H' ⟨e, k⟩ => ?_⟩
    subst e
    have := k _ (x2.sql hq)
    rw [hv] at this; cases this
    exact ⟨G1, Grow.refl x2, dp⟩
theorem wk_tup {K : PySem.W.Frag} {G : Hp} {a : Addr} {ds : List D} (h : Dp K G (.ref a) (.tuple ds)) : Wk K (Itt K a) ds G := fun G1 H i x1 x2 => by
  cases Dpm x1 h with
  | tup hq ha =>
    refine ⟨fun d hd => ?_, fun hi => ⟨_, x2.sqt hq, by rw [dps_len ha, hi]; exact Nat.le_refl _⟩⟩
    obtain ⟨v, hv, dp⟩ := dps_get ha hd
    refine ⟨⟨_, v, x2.sqt hq, hv⟩, fun x H' ⟨e, k⟩ => ?_⟩
    subst e
    have := k _ (x2.sqt hq)
    rw [hv] at this; cases this
    exact ⟨G1, Grow.refl x2, dp⟩
theorem wk_str {K : PySem.W.Frag} {G : Hp} {z : Str} : Wk K (Its z) (z.cps.toList.map fun c => .str ⟨#[c]⟩) G := fun G1 H i x1 x2 => by
  refine ⟨fun d hd => ?_, fun hi => ?_⟩
  · rw [List.getElem?_map] at hd
    cases q : z.cps.toList[i]? with
    | none => rw [q] at hd; cases hd
    | some c =>
      rw [q] at hd; cases hd
      have hi := (List.getElem?_eq_some_iff.mp q).1
      refine ⟨by show i < z.cps.size; simpa using hi, fun x H' ⟨e, c', h1, h2⟩ => ?_⟩
      subst e; subst h2
      have : z.cps[i]? = some c := by simpa using q
      rw [this] at h1; cases h1
      exact ⟨G1, Grow.refl x2, .str _⟩
  · show z.cps.size ≤ i
    rw [hi]; simp
theorem wk_rng {K : PySem.W.Frag} {G : Hp} {lo : Int} {n : Nat} : Wk K (Itr lo n) (rangeD lo n) G := fun G1 H i x1 x2 => by
  have hl : (rangeD lo n).length = n := by unfold rangeD; simp
  refine ⟨fun d hd => ?_, fun hi => ?_⟩
  · have hi : i < n := by rw [← hl]; exact (List.getElem?_eq_some_iff.mp hd).1
    refine ⟨hi, fun x H' ⟨e, h2⟩ => ?_⟩
    subst e; subst h2
    have : d = .int (lo + (i : Int)) := by
      unfold rangeD at hd
      rw [List.getElem?_map, List.getElem?_range hi] at hd
      exact (Option.some.inj hd).symm
    subst this
    exact ⟨G1, Grow.refl x2, .int _⟩
  · show n ≤ i
    omega
theorem wk_down {K : PySem.W.Frag} {G : Hp} {hi : Int} {n : Nat} : Wk K (Itc hi (-1) n) (downD hi n) G := fun G1 H i x1 x2 => by
  have hl : (downD hi n).length = n := by unfold downD; simp
  refine ⟨fun d hd => ?_, fun hi => ?_⟩
  · have hi2 : i < n := by rw [← hl]; exact (List.getElem?_eq_some_iff.mp hd).1
    refine ⟨hi2, fun x H' ⟨e, h2⟩ => ?_⟩
    subst e; subst h2
    have : d = .int (hi - (i : Int)) := by
      unfold downD at hd
      rw [List.getElem?_map, List.getElem?_range hi2] at hd
      exact (Option.some.inj hd).symm
    subst this
    have e : hi + (i : Int) * (-1) = hi - (i : Int) := by omega
    show ∃ G2, Grow G1 _ G2 _ ∧ Dp K G2 (V.int (hi + (i : Nat) * (-1))) _
    rw [e]
    exact ⟨G1, Grow.refl x2, .int _⟩
  · show n ≤ i
    omega

def JE (K : PySem.W.Frag) (vv : V) (d : D) (ds : List D) : It :=
  ⟨fun i H => i < ds.length ∧ ∃ G, Ex G H ∧ Dp K G vv d,
    fun i H v H' => ∃ T x di, v = .ref T ∧ H T = none ∧ H' = upd H T (.tup [.int (i : Nat), x]) ∧ ds[i]? = some di ∧ ∀ G, Ex G H → Dp K G vv d → Dp K G x di,
    fun i H => i = ds.length ∧ ∃ G, Ex G H ∧ Dp K G vv d⟩
theorem turn_e {P : Program} {w : World} {K : PySem.W.Frag} {elts : List Expr} {kk : Nat} {tpos : Pos} {vv : V} {u : Value} {d : D} {ds : List D} {e it : Addr} (hs : seqR d = some ds) (r : RelV vv u) (hne : e ≠ it) (he : e ∉ srcA u) (hi : it ∉ srcA u) :
    Turn P w K (.Tuple elts kk tpos) (JE K vv d ds) [e, it] e (fun i h => (∃ old, IsEnum h e it ((i : Nat) : Int) old) ∧ StI (ityp d) u it i h) where
  mem := List.mem_cons_self
  obj := fun i h ⟨⟨old, q⟩, o, e1, _, e2⟩ b hb => by
    have hb : b = e ∨ b = it := by simpa using hb
    rcases hb with rfl | rfl
    · exact ⟨_, q, fun v z => nomatch z⟩
    · exact ⟨o, e1, fun v z => by rw [e2] at z; cases z⟩
  keep := fun i h h' ⟨⟨old, q⟩, st⟩ k => ⟨⟨old, k e (by simp) _ q⟩, st.keep fun o z => k it (by simp) o z⟩
  item := by
    intro X hP hw hK hc i pins s σ H E I hf ⟨⟨old, q⟩, st⟩ hg
    subst hP hw hK
    obtain ⟨hlt, G, x, dp⟩ := hg
    obtain ⟨Pv, Hc, Fd⟩ := feed I x dp hs r
    have Wk := WalksT.enumerateD (Fd.drw X.A.in1 it (I.ok.hd hc) hi) e hne (by simp only [List.mem_cons, not_or]; exact ⟨hne, he⟩) List.mem_cons_self
    refine Wk.item i s _ _ hlt ⟨⟨old, q⟩, st, Fd.now⟩ fun T vs h1 tk hv hT tT mid k1 => ?_
    obtain ⟨t, xv, hx, rfl⟩ := hv
    refine ⟨_, rfl, Wk.go elts kk tpos i T { s with heap := h1, toks := tk } _ _ mid fun h2 st2 k2 => ?_⟩
    obtain ⟨xx, di, e1, e2, e3⟩ := Fd.itm i xv hx
    have nT : T ∉ [e, it] := Wk.apart i T h1 mid
    obtain ⟨oT, gT, cT, nn, dT⟩ := tT
    have new : ObjOk X.prog X.w (upd H T (.tup [.int (i : Nat), xx])) h2 T (.tup [.int (i : Nat), xx]) :=
      ⟨by show 2 ≤ sizeLine; decide, [.int i t, xv], .cons ⟨_, rfl⟩ (.cons e2 .nil), ⟨_, k2 T _ nT gT, cT, nn, dT⟩⟩
    have J : Inv X pins σ (upd H T (.tup [.int (i : Nat), xx])) { s with heap := h2, toks := tk } :=
      I.turnedNew (ch := [e, it]) (fun b o hb z => k2 b o hb (k1 b o hb z)) hf hT new
    refine ⟨.ref T, _, J, rfl, ⟨T, xx, di, rfl, I.hok.fresh hT, rfl, e1, e3⟩, ⟨st2.1, st2.2.1⟩, fun b hb => ?_⟩
    have ne : b ≠ T := by intro z; subst z; exact nT hb
    rw [upd_ne ne]
    exact (hf b hb).1
  done := by
    intro X hP hw hK hc i pins s σ H E I hf ⟨⟨old, q⟩, st⟩ hg
    subst hP hw hK
    obtain ⟨rfl, G, x, dp⟩ := hg
    obtain ⟨Pv, Hc, Fd⟩ := feed I x dp hs r
    have Wk := WalksT.enumerateD (Fd.drw X.A.in1 it (I.ok.hd hc) hi) e hne (by simp only [List.mem_cons, not_or]; exact ⟨hne, he⟩) List.mem_cons_self
    exact Wk.done s _ _ ⟨⟨old, q⟩, st, Fd.now⟩ fun h1 tk k1 => ⟨rfl, I.turnedL (ch := [e, it]) k1 hf⟩
  self := fun A i s Q E ⟨⟨_, q⟩, _⟩ h => wpAny_pyIter_enum q h
theorem numD_len : ∀ (k : Nat) (ds : List D), (numD k ds).length = ds.length
  | _, [] => rfl
  | k, _ :: ds => by unfold numD; rw [List.length_cons, List.length_cons, numD_len]
theorem numD_at : ∀ (k : Nat) (ds : List D) (i : Nat) (d : D), (numD k ds)[i]? = some d → ∃ di, ds[i]? = some di ∧ d = .tuple [.int ((k + i : Nat) : Int), di]
  | _, [], i, _, h => by unfold numD at h; simp at h
  | k, d0 :: ds, 0, _, h => by unfold numD at h; simp at h; exact ⟨d0, rfl, by rw [← h]; rfl⟩
  | k, d0 :: ds, i + 1, d, h => by
    unfold numD at h
    obtain ⟨di, e1, e2⟩ := numD_at (k + 1) ds i d (by simpa using h)
    refine ⟨di, by simpa using e1, ?_⟩
    rw [e2]
    have : k + 1 + i = k + (i + 1) := by omega
    rw [this]
theorem wk_e {K : PySem.W.Frag} {G : Hp} {vv : V} {d : D} {ds : List D} (h : Dp K G vv d) : Wk K (JE K vv d ds) (numD 0 ds) G := fun G1 H i x1 x2 => by
  have dp := Dpm x1 h
  refine ⟨fun dd hd => ?_, fun hi => ⟨by rw [hi, numD_len], G1, x2, dp⟩⟩
  obtain ⟨di, e1, e2⟩ := numD_at 0 ds i dd hd
  refine ⟨⟨(List.getElem?_eq_some_iff.mp e1).1, G1, x2, dp⟩, fun x H' ⟨T, xx, di', a1, a2, a3, a4, a5⟩ => ?_⟩
  rw [e1] at a4; cases a4
  subst a1; subst a3; subst e2
  refine ⟨_, Grow.shared x2 a2, .tup (.inl (.inl upd_same)) (.cons ?_ (.cons (Dpm (Ex.new (x2.none a2)) (a5 G1 x2 dp)) .nil))⟩
  rw [Nat.zero_add]; exact .int _
def JZ (K : PySem.W.Frag) (v1 v2 : V) (d1 d2 : D) (xs ys : List D) : It :=
  ⟨fun i H => i < min xs.length ys.length ∧ ∃ G, Ex G H ∧ Dp K G v1 d1 ∧ Dp K G v2 d2,
    fun i H v H' => ∃ T x y di dj, v = .ref T ∧ H T = none ∧ H' = upd H T (.tup [x, y]) ∧ xs[i]? = some di ∧ ys[i]? = some dj ∧ ∀ G, Ex G H → Dp K G v1 d1 → Dp K G v2 d2 → Dp K G x di ∧ Dp K G y dj,
    fun i H => i = min xs.length ys.length ∧ ∃ G, Ex G H ∧ Dp K G v1 d1 ∧ Dp K G v2 d2⟩
theorem turn_z {P : Program} {w : World} {K : PySem.W.Frag} {elts : List Expr} {kk : Nat} {tpos : Pos} {v1 v2 : V} {u1 u2 : Value} {d1 d2 : D} {xs ys : List D} {z TI TO i1 i2 : Addr} (h1 : seqR d1 = some xs) (h2 : seqR d2 = some ys) (r1 : RelV v1 u1) (r2 : RelV v2 u2)
    (S : ZipSep2 z TI TO i1 i2 (i1 :: srcA u1) (i2 :: srcA u2)) (n1 : i1 ∉ srcA u1) (n2 : i2 ∉ srcA u2) :
    Turn P w K (.Tuple elts kk tpos) (JZ K v1 v2 d1 d2 xs ys) [z, TI, TO, i1, i2] z (fun i h => IsZip h z TI TO .none ∧ IsTupOf2 h TI (.ref i1) (.ref i2) ∧ (∃ a b, IsTupOf2 h TO a b) ∧ StI (ityp d1) u1 i1 i h ∧ StI (ityp d2) u2 i2 i h) where
  mem := List.mem_cons_self
  obj := fun i h ⟨q1, q2, ⟨a, b, q3⟩, ⟨o1, e1, _, c1⟩, ⟨o2, e2, _, c2⟩⟩ x hx => by
    have hx : x = z ∨ x = TI ∨ x = TO ∨ x = i1 ∨ x = i2 := by simpa using hx
    rcases hx with rfl | rfl | rfl | rfl | rfl
    · exact ⟨_, q1, fun v y => nomatch y⟩
    · exact ⟨_, q2, fun v y => nomatch y⟩
    · exact ⟨_, q3, fun v y => nomatch y⟩
    · exact ⟨o1, e1, fun v y => by rw [c1] at y; cases y⟩
    · exact ⟨o2, e2, fun v y => by rw [c2] at y; cases y⟩
  keep := fun i h h' ⟨q1, q2, ⟨a, b, q3⟩, s1, s2⟩ k => ⟨k z (by simp) _ q1, k TI (by simp) _ q2, ⟨a, b, k TO (by simp) _ q3⟩, s1.keep fun o y => k i1 (by simp) o y, s2.keep fun o y => k i2 (by simp) o y⟩
  item := by
    intro X hP hw hK hc i pins s σ H E I hf ⟨q1, q2, q3, s1, s2⟩ hg
    subst hP hw hK
    obtain ⟨hlt, G, x, dp1, dp2⟩ := hg
    obtain ⟨P1, H1, F1⟩ := feed I x dp1 h1 r1
    obtain ⟨P2, H2, F2⟩ := feed I x dp2 h2 r2
    have Wk := WalksT.zipD2 S (F1.drw X.A.in1 i1 (I.ok.hd hc) n1) (F2.drw X.A.in1 i2 (I.ok.hd hc) n2)
    refine Wk.item i s _ _ hlt ⟨q1, q2, q3, ⟨s1, F1.now⟩, ⟨s2, F2.now⟩⟩ fun T vs g1 tk hv hT tT mid k1 => ?_
    obtain ⟨xv, yv, hx, hy, rfl⟩ := hv
    refine ⟨_, rfl, Wk.go elts kk tpos i T { s with heap := g1, toks := tk } _ _ mid fun g2 st2 k2 => ?_⟩
    obtain ⟨x1, di, a1, a2, a3⟩ := F1.itm i xv hx
    obtain ⟨y1, dj, b1, b2, b3⟩ := F2.itm i yv hy
    have sub : ∀ c, c ∉ [z, TI, TO, i1, i2] → c ∉ [z, TO, i1, i2] := fun c h h' => h (by
      have h' : c = z ∨ c = TO ∨ c = i1 ∨ c = i2 := by simpa using h'
      rcases h' with rfl | rfl | rfl | rfl <;> simp)
    have nT : ∀ b ∈ [z, TI, TO, i1, i2], T ≠ b := fun b hb e => by
      have : T < s.heap.objs.size := by
        rw [e]
        have hb : b = z ∨ b = TI ∨ b = TO ∨ b = i1 ∨ b = i2 := by simpa using hb
        obtain ⟨a, c, q3⟩ := q3
        obtain ⟨_, e1, _⟩ := s1
        obtain ⟨_, e2, _⟩ := s2
        rcases hb with rfl | rfl | rfl | rfl | rfl
        · exact Heap.lt_size q1
        · exact Heap.lt_size q2
        · exact Heap.lt_size q3
        · exact Heap.lt_size e1
        · exact Heap.lt_size e2
      exact absurd hT (Nat.not_le_of_lt this)
    obtain ⟨oT, gT, cT, nn, dT⟩ := tT
    have new : ObjOk X.prog X.w (upd H T (.tup [x1, y1])) g2 T (.tup [x1, y1]) :=
      ⟨by show 2 ≤ sizeLine; decide, [xv, yv], .cons a2 (.cons b2 .nil), ⟨_, k2 T _ (fun y => by
        have y : T = z ∨ T = TO ∨ T = i1 ∨ T = i2 := by simpa using y
        rcases y with e | e | e | e
        · exact nT _ (by simp) e
        · exact nT _ (by simp) e
        · exact nT _ (by simp) e
        · exact nT _ (by simp) e) gT, cT, nn, dT⟩⟩
    have J : Inv X pins σ (upd H T (.tup [x1, y1])) { s with heap := g2, toks := tk } :=
      I.turnedNew (ch := [z, TI, TO, i1, i2]) (fun b o hb y => k2 b o (sub b hb) (k1 b o (sub b hb) y)) hf hT new
    refine ⟨.ref T, _, J, rfl, ⟨T, x1, y1, di, dj, rfl, I.hok.fresh hT, rfl, a1, b1, fun G' e' p1 p2 => ⟨a3 G' e' p1, b3 G' e' p2⟩⟩, ⟨st2.1, st2.2.1, st2.2.2.1, st2.2.2.2.1.1, st2.2.2.2.2.1⟩, fun b hb => ?_⟩
    rw [upd_ne (fun y => nT b hb y.symm)]
    exact (hf b hb).1
  done := by
    intro X hP hw hK hc i pins s σ H E I hf ⟨q1, q2, q3, s1, s2⟩ hg
    subst hP hw hK
    obtain ⟨rfl, G, x, dp1, dp2⟩ := hg
    obtain ⟨P1, H1, F1⟩ := feed I x dp1 h1 r1
    obtain ⟨P2, H2, F2⟩ := feed I x dp2 h2 r2
    have Wk := WalksT.zipD2 S (F1.drw X.A.in1 i1 (I.ok.hd hc) n1) (F2.drw X.A.in1 i2 (I.ok.hd hc) n2)
    exact Wk.done s _ _ ⟨q1, q2, q3, ⟨s1, F1.now⟩, ⟨s2, F2.now⟩⟩ fun g1 tk k1 => ⟨rfl, I.turnedL (ch := [z, TI, TO, i1, i2]) (fun b o hb y => k1 b o (fun h' => hb (by
      have h' : b = z ∨ b = TO ∨ b = i1 ∨ b = i2 := by simpa using h'
      rcases h' with rfl | rfl | rfl | rfl <;> simp)) y) hf⟩
  self := fun A i s Q E ⟨q, _⟩ h => wpAny_pyIter_zip q h
theorem zipD_len : ∀ (xs ys : List D), (zipD xs ys).length = min xs.length ys.length
  | [], _ => by unfold zipD; simp
  | _ :: _, [] => by unfold zipD; simp
  | x :: xs, y :: ys => by unfold zipD; simp [zipD_len xs ys]
theorem zipD_at : ∀ (xs ys : List D) (i : Nat) (d : D), (zipD xs ys)[i]? = some d → ∃ a b, xs[i]? = some a ∧ ys[i]? = some b ∧ d = .tuple [a, b]
  | [], _, i, _, h => by unfold zipD at h; simp at h
  | _ :: _, [], i, _, h => by unfold zipD at h; simp at h
  | x :: xs, y :: ys, 0, _, h => by unfold zipD at h; simp at h; exact ⟨x, y, rfl, rfl, h.symm⟩
  | x :: xs, y :: ys, i + 1, d, h => by
    unfold zipD at h
    obtain ⟨a, b, e1, e2, e3⟩ := zipD_at xs ys i d (by simpa using h)
    exact ⟨a, b, by simpa using e1, by simpa using e2, e3⟩
theorem wk_z {K : PySem.W.Frag} {G : Hp} {v1 v2 : V} {d1 d2 : D} {xs ys : List D} (h1 : Dp K G v1 d1) (h2 : Dp K G v2 d2) : Wk K (JZ K v1 v2 d1 d2 xs ys) (zipD xs ys) G := fun G1 H i x1 x2 => by
  have p1 := Dpm x1 h1
  have p2 := Dpm x1 h2
  refine ⟨fun dd hd => ?_, fun hi => ⟨by rw [hi, zipD_len], G1, x2, p1, p2⟩⟩
  obtain ⟨a, b, e1, e2, e3⟩ := zipD_at xs ys i dd hd
  have l1 := (List.getElem?_eq_some_iff.mp e1).1
  have l2 := (List.getElem?_eq_some_iff.mp e2).1
  refine ⟨⟨by omega, G1, x2, p1, p2⟩, fun x H' ⟨T, x', y', di, dj, a1, a2, a3, a4, a5, a6⟩ => ?_⟩
  rw [e1] at a4; cases a4
  rw [e2] at a5; cases a5
  subst a1; subst a3; subst e3
  obtain ⟨c1, c2⟩ := a6 G1 x2 p1 p2
  have m := Ex.new (H := G1) (p := T) (o := .tup [x', y']) (x2.none a2)
  exact ⟨_, Grow.shared x2 a2, .tup (.inl (.inl upd_same)) (.cons (Dpm m c1) (.cons (Dpm m c2) .nil))⟩
end MP

set_option Elab.async false
set_option linter.all false
set_option maxRecDepth 100000
set_option maxHeartbeats 4000000
namespace MP
open PySem PySem.Spec PyProof.Rows L2

section
variable {X : Cx} {T : Tab} {W : WX} {tg a b c e : Expr} {p pos tpos : Pos} {ma mb mc : M D} {elts : List Expr} {kk : Nat}
theorem si_seq (he : PE X e (tD T X.K W ma)) : PI X tg e (tI T X.K W (mSeq ma)) := by
  refine ⟨fun pins s σ H R I ⟨g, G, env, ts, fp, S, h⟩ => ?_⟩
  have h := h.bnd
  cases q : ma env with
  | no => rw [q] at h; exact h.elim
  | exc x e1 => rw [q] at h; exact (pi_list he).run pins s σ H R I ⟨g, G, env, ts, fp, S, by rw [q]; exact h⟩
  | ok d e1 =>
    rw [q] at h
    cases d with
    | list ds => exact (pi_list he).run pins s σ H R I ⟨g, G, env, ts, fp, S, by
        rw [q]
        intro v G1 H1 fp1 x S1 dp
        cases dp with
        | lst hq ha => exact ⟨_, rfl, ⟨_, S1.sub.sql hq⟩, h _ G1 H1 fp1 x S1 (wk_list (.lst hq ha))⟩⟩
    | tuple ds => exact (pi_tup he).run pins s σ H R I ⟨g, G, env, ts, fp, S, by
        rw [q]
        intro v G1 H1 fp1 x S1 dp
        cases dp with
        | tup hq ha => exact ⟨_, rfl, ⟨_, S1.sub.sqt hq⟩, h _ G1 H1 fp1 x S1 (wk_tup (.tup hq ha))⟩⟩
    | str z => exact (pi_str he).run pins s σ H R I ⟨g, G, env, ts, fp, S, by
        rw [q]
        intro v G1 H1 fp1 x S1 dp
        cases dp
        exact ⟨z, rfl, h _ G1 H1 fp1 x S1 wk_str⟩⟩
    | none => exact h.elim
    | bool z => exact h.elim
    | int z => exact h.elim
    | dict z => exact h.elim
theorem bigOk_iff {i : Int} (h : bigOk i = true) : -(2 ^ 62) ≤ i ∧ i < 2 ^ 62 := by
  unfold bigOk at h
  rw [Bool.and_eq_true] at h
  exact ⟨of_decide_eq_true h.1, of_decide_eq_true h.2⟩
theorem si_rng1 (hg : Gl X "range") (hm : X.mg "range" = none) (ha : PE X a (tD T X.K W ma)) (hs : starEach [a] X.env = [(false, eval a X.env)]) : PI X tg (.Call (.Name "range" p) [a] [] pos) (tI T X.K W (mRng1 ma)) := by
  refine ⟨fun pins s σ H R I ⟨g, G, env, ts, fp, S, h⟩ => (pi_range1 hg hm (pa_cons ha pa_nil hs) hs).run pins s σ H R I ⟨g, G, env, ts, fp, S, h.bnd.mono fun d e1 k v G1 H1 fp1 x S1 dp => ?_⟩⟩
  have k := k.up x fun _ _ z J G' H' fp' q => z J G' H' fp' (x.trans q)
  cases d with
  | int j =>
    cases dp
    by_cases hb : bigOk j = true
    · obtain ⟨h1, h2⟩ := bigOk_iff hb
      simp only [hb, if_true] at k
      exact ⟨j, rfl, h1, h2, k _ G1 H1 fp1 (Ex.refl _) S1 wk_rng⟩
    · simp only [hb, if_false] at k; exact k.elim
  | none => exact k.elim
  | bool z => exact k.elim
  | str z => exact k.elim
  | list z => exact k.elim
  | tuple z => exact k.elim
  | dict z => exact k.elim
theorem si_rng2 (hg : Gl X "range") (hm : X.mg "range" = none) (ha : PE X a (tD T X.K W ma)) (hb : PE X b (tD T X.K W mb)) (hs : starEach [a, b] X.env = [(false, eval a X.env), (false, eval b X.env)]) (hs2 : starEach [b] X.env = [(false, eval b X.env)]) :
    PI X tg (.Call (.Name "range" p) [a, b] [] pos) (tI T X.K W (mRng2 ma mb)) := by
  refine ⟨fun pins s σ H R I ⟨g, G, env, ts, fp, S, h⟩ => (pi_range2 hg hm (pa_cons ha (pa_cons hb pa_nil hs2) (by rw [hs, hs2])) hs hs2).run pins s σ H R I ⟨g, G, env, ts, fp, S, h.bnd.mono fun d e1 k v G1 H1 fp1 x S1 dp => ?_⟩⟩
  have k := k.up x fun _ _ z J G' H' fp' q => z J G' H' fp' (x.trans q)
  refine ⟨g, G1, e1, ts, fp1, S1, k.bnd.mono fun d2 e2 k2 v2 G2 H2 fp2 x2 S2 dp2 => ?_⟩
  have k2 := k2.up x2 fun _ _ z J G' H' fp' q => z J G' H' fp' (x2.trans q)
  cases d with
  | int i =>
    cases d2 with
    | int j =>
      cases dp
      cases dp2
      by_cases hb : (bigOk i && bigOk j) = true
      · simp only [hb, if_true] at k2
        rw [Bool.and_eq_true] at hb
        obtain ⟨h1, h2⟩ := bigOk_iff hb.1
        obtain ⟨h3, h4⟩ := bigOk_iff hb.2
        exact ⟨i, j, rfl, ⟨h1, h2, h3, h4⟩, k2 _ G2 H2 fp2 (Ex.refl _) S2 wk_rng⟩
      · simp only [hb, if_false] at k2; exact k2.elim
    | none => exact k2.elim
    | bool z => exact k2.elim
    | str z => exact k2.elim
    | list z => exact k2.elim
    | tuple z => exact k2.elim
    | dict z => exact k2.elim
  | none => exact k2.elim
  | bool z => exact k2.elim
  | str z => exact k2.elim
  | list z => exact k2.elim
  | tuple z => exact k2.elim
  | dict z => exact k2.elim
/-- range(a, b, -1) -/
def mRng3 (a b c : M D) : Itm := bnd a fun x => bnd b fun y => bnd c fun z => match x, y, z with
  | .int i, .int j, .int k => if bigOk i && bigOk j && decide (k = -1) then pur (downD i (i - j).toNat) else bad
  | _, _, _ => bad
theorem rng3_inv {g : Gh} {ts : Tmp} {σ : L2.St} {G : Hp} {env : Env} {x y z : D} {P : List D → Env → Hp → Prop} (h : Aft T X.K W g ts σ G P ((match x, y, z with
    | .int i, .int j, .int k => if bigOk i && bigOk j && decide (k = -1) then pur (downD i (i - j).toNat) else bad
    | _, _, _ => bad : Itm) env)) : ∃ i j, x = .int i ∧ y = .int j ∧ z = .int (-1) ∧ bigOk i = true ∧ bigOk j = true ∧ P (downD i (i - j).toNat) env G := by
  split at h
  · rename_i i j k
    split at h
    · rename_i hb
      rw [Bool.and_eq_true, Bool.and_eq_true] at hb
      have hl : k = -1 := of_decide_eq_true hb.2
      subst hl
      exact ⟨i, j, rfl, rfl, rfl, hb.1.1, hb.1.2, h⟩
    · exact h.elim
  · exact h.elim
theorem si_rng3 (hg : Gl X "range") (hm : X.mg "range" = none) (ha : PE X a (tD T X.K W ma)) (hb : PE X b (tD T X.K W mb)) (hc : PE X c (tD T X.K W mc)) (hs : starEach [a, b, c] X.env = (false, eval a X.env) :: starEach [b, c] X.env)
    (hs2 : starEach [b, c] X.env = (false, eval b X.env) :: starEach [c] X.env) (hs3 : starEach [c] X.env = [(false, eval c X.env)]) :
    PI X tg (.Call (.Name "range" p) [a, b, c] [] pos) (tI T X.K W (mRng3 ma mb mc)) := by
  have hpl : (backTo pos (starEach [b, c] X.env)).any (·.1) = false := by rw [hs2, hs3]; rfl
  refine ⟨fun pins s σ H R I ⟨g, G, env, ts, fp, S, h⟩ => (pi_range3 hg hm (pa_cons ha (pa_cons hb (pa_cons hc pa_nil hs3) hs2) hs) hs hpl).run pins s σ H R I ⟨g, G, env, ts, fp, S, h.bnd.mono fun d e1 k v G1 H1 fp1 x S1 dp => ?_⟩⟩
  have k := k.up x fun _ _ z J G' H' fp' q => z J G' H' fp' (x.trans q)
  refine ⟨g, G1, e1, ts, fp1, S1, k.bnd.mono fun d2 e2 k2 v2 G2 H2 fp2 x2 S2 dp2 => ?_⟩
  have k2 := k2.up x2 fun _ _ z J G' H' fp' q => z J G' H' fp' (x2.trans q)
  refine ⟨g, G2, e2, ts, fp2, S2, k2.bnd.mono fun d3 e3 k3 v3 G3 H3 fp3 x3 S3 dp3 => ?_⟩
  have k3 := k3.up x3 fun _ _ z J G' H' fp' q => z J G' H' fp' (x3.trans q)
  obtain ⟨i, j, rfl, rfl, rfl, b1, b2, q⟩ := rng3_inv k3
  cases dp; cases dp2; cases dp3
  obtain ⟨h1, h2⟩ := bigOk_iff b1
  obtain ⟨h3, h4⟩ := bigOk_iff b2
  exact ⟨i, j, -1, (i - j).toNat, rfl, RgC.neg h1 h2 h3 h4, q _ G3 H3 fp3 (Ex.refl _) S3 wk_down⟩
theorem srcA_lt {N : Nat} {u : Value} (h : ∀ b ∈ srcA u, b < N) {j : Nat} : N + j ∉ srcA u := fun hm => absurd (h _ hm) (Nat.not_lt_of_le (Nat.le_add_right _ _))
theorem sti_of {h : Heap} {it : Addr} {d : D} {u : Value} (e : h.get? it = some { cls := .type (ityp d), data := .fields #[u, .int 0 0] }) : StI (ityp d) u it 0 h := ⟨_, e, rfl, rfl⟩
theorem si_enum (hg : Gl X "enumerate") (hm : X.mg "enumerate" = none) (ha : PE X a (tD T X.K W ma)) (hs : starEach [a] X.env = [(false, eval a X.env)]) : PI X (.Tuple elts kk tpos) (.Call (.Name "enumerate" p) [a] [] pos) (tI T X.K W (mEnum ma)) := by
  refine ⟨fun pins s σ H R I ⟨g, G, env, ts, fp, S, h⟩ => ?_⟩
  refine Call_ (ld_blt I hg hm boot_enumerate (PyProof.Rows.callWith_type1 (thn ((pa_cons ha pa_nil hs).run pos pins s σ H (fun vs H1 => ∃ v d ds G1, vs = [v] ∧ Ex G1 H1 ∧ Dp X.K G1 v d ∧ seqR d = some ds ∧ ∀ J, Wk X.K J (numD 0 ds) G1 → R J H1) I ?_) fun us s1 ⟨vs, H1, I1, r1, v, d, ds, G1, e, x1, dp, hd, q⟩ => ?_) hs rfl))
  · refine ⟨g, G, env, ts, fp, S, h.bnd.mono fun d e1 k v G1 H1 fp1 x S1 dp => ?_⟩
    have k := k.up x fun _ _ z J G' H' fp' q => z J G' H' fp' (x.trans q)
    show ∃ w d ds G1, [v] = [w] ∧ _
    cases d with
    | list ds => exact ⟨v, _, ds, G1, rfl, S1.sub, dp, rfl, fun J w => k J G1 H1 fp1 (Ex.refl _) S1 w⟩
    | tuple ds => exact ⟨v, _, ds, G1, rfl, S1.sub, dp, rfl, fun J w => k J G1 H1 fp1 (Ex.refl _) S1 w⟩
    | none => exact k.elim
    | bool z => exact k.elim
    | int z => exact k.elim
    | str z => exact k.elim
    | dict z => exact k.elim
  · subst e
    cases r1 with
    | @cons _ u _ _ r rr =>
      cases rr
      obtain ⟨P, Hc, F⟩ := feed I1 x1 dp hd r
      refine enum_call F.beg F.now fun h' he hit hsz hk => wpAny_pyIter_enum he ?_
      have I2 : Inv X pins σ H1 { s1 with heap := h' } := I1.kept (t' := s1.toks) hk
      refine ⟨s1.heap.objs.size + 1, [s1.heap.objs.size + 1, s1.heap.objs.size], _, _, H1, rfl, I2, turn_e hd r (Nat.succ_ne_self _) (srcA_lt F.src) (srcA_lt (j := 0) F.src), ⟨⟨.none, he⟩, sti_of hit⟩, fun b hb => ?_, q _ (wk_e dp)⟩
      have e' : b = s1.heap.objs.size + 1 ∨ b = s1.heap.objs.size := by simpa using hb
      have hle : s1.heap.objs.size ≤ b := by
        rcases e' with z | z
        · rw [z]; exact Nat.le_add_right _ _
        · rw [z]; exact Nat.le_refl _
      exact I1.fpOk hle (I1.hok.fresh hle)
theorem si_zip (hg : Gl X "zip") (hm : X.mg "zip" = none) (ha : PE X a (tD T X.K W ma)) (hb : PE X b (tD T X.K W mb)) (hs : starEach [a, b] X.env = (false, eval a X.env) :: starEach [b] X.env) (hs2 : starEach [b] X.env = [(false, eval b X.env)]) :
    PI X (.Tuple elts kk tpos) (.Call (.Name "zip" p) [a, b] [] pos) (tI T X.K W (mZip ma mb)) := by
  have hpl : (backTo pos (starEach [b] X.env)).any (·.1) = false := by rw [hs2]; rfl
  refine ⟨fun pins s σ H R I ⟨g, G, env, ts, fp, S, h⟩ => ?_⟩
  refine Call_ (ld_blt I hg hm PyProof.Rows.boot_zip (PyProof.Rows.callWith_type1 (thn ((pa_cons ha (pa_cons hb pa_nil hs2) hs).run pos pins s σ H (fun vs H1 => ∃ v w d d2 xs ys G1, vs = [v, w] ∧ Ex G1 H1 ∧ Dp X.K G1 v d ∧ Dp X.K G1 w d2 ∧ seqR d = some xs ∧ seqR d2 = some ys ∧ ∀ J, Wk X.K J (zipD xs ys) G1 → R J H1) I ?_) fun us s1 ⟨vs, H1, I1, r1, v, w, d, d2, xs, ys, G1, e, x1, dp, dp2, hd, hd2, q⟩ => ?_) hs hpl))
  · refine ⟨g, G, env, ts, fp, S, h.bnd.mono fun d e1 k v G1 H1 fp1 x S1 dp => ?_⟩
    have k := k.up x fun _ _ z J G' H' fp' q => z J G' H' fp' (x.trans q)
    refine ⟨g, G1, e1, ts, fp1, S1, k.bnd.mono fun d2 e2 k2 v2 G2 H2 fp2 x2 S2 dp2 => ?_⟩
    have k2 := k2.up x2 fun _ _ z J G' H' fp' q => z J G' H' fp' (x2.trans q)
    show ∃ w1 w2 d d2 xs ys G1, [v, v2] = [w1, w2] ∧ _
    have key : ∀ xs ys, seqR d = some xs → seqR d2 = some ys → (∀ J, Wk X.K J (zipD xs ys) G2 → R J H2) → ∃ w1 w2 d d2 xs ys G1, [v, v2] = [w1, w2] ∧ Ex G1 H2 ∧ Dp X.K G1 w1 d ∧ Dp X.K G1 w2 d2 ∧ seqR d = some xs ∧ seqR d2 = some ys ∧ ∀ J, Wk X.K J (zipD xs ys) G1 → R J H2 :=
      fun xs ys h1 h2 z => ⟨v, v2, d, d2, xs, ys, G2, rfl, S2.sub, Dpm x2 dp, dp2, h1, h2, z⟩
    cases d <;> cases d2 <;> first | exact k2.elim | exact key _ _ rfl rfl fun J w => k2 J G2 H2 fp2 (Ex.refl _) S2 w
  · subst e
    cases r1 with
    | @cons _ u _ _ r rr =>
      cases rr with
      | @cons _ u2 _ _ r' rr =>
        cases rr
        obtain ⟨P, Hc, F⟩ := feed I1 x1 dp hd r
        obtain ⟨P2, Hc2, F2⟩ := feed I1 x1 dp2 hd2 r'
        refine zip_begins2 F.beg F2.beg F.now F2.now fun h' hz hTI hTO h1 h2 hsz hk => wpAny_pyIter_zip hz ?_
        have I2 : Inv X pins σ H1 { s1 with heap := h' } := I1.kept (t' := s1.toks) hk
        refine ⟨s1.heap.objs.size + 4, [s1.heap.objs.size + 4, s1.heap.objs.size + 2, s1.heap.objs.size + 3, s1.heap.objs.size, s1.heap.objs.size + 1], _, _, H1, rfl, I2, turn_z hd hd2 r r' (zip_sep2 F.src F2.src) (srcA_lt (j := 0) F.src) (srcA_lt F2.src), ⟨hz, hTI, ⟨_, _, hTO⟩, sti_of h1, sti_of h2⟩, fun c hcm => ?_, q _ (wk_z dp dp2)⟩
        have e' : c = s1.heap.objs.size + 4 ∨ c = s1.heap.objs.size + 2 ∨ c = s1.heap.objs.size + 3 ∨ c = s1.heap.objs.size ∨ c = s1.heap.objs.size + 1 := by simpa using hcm
        have hle : s1.heap.objs.size ≤ c := by
          rcases e' with z | z | z | z | z
          · rw [z]; exact Nat.le_add_right _ _
          · rw [z]; exact Nat.le_add_right _ _
          · rw [z]; exact Nat.le_add_right _ _
          · rw [z]; exact Nat.le_refl _
          · rw [z]; exact Nat.le_add_right _ _
        exact I1.fpOk hle (I1.hok.fresh hle)
end
end MP

set_option Elab.async false
set_option linter.all false
set_option maxRecDepth 100000
set_option maxHeartbeats 4000000
namespace MP
open PySem PySem.Spec PyProof.Rows L2

section
variable {K : PySem.W.Frag} {g : Gh} {G H : Hp} {env : Env} {σ : L2.St} {ts : Tmp} {fp : Ix → List Addr}
/-- the last temporary goes into a slot -/
theorem Stt.store {o : O} {v : V} {i : Nat} (S : Stt K g G H env σ (ts ++ [(o, v)]) fp) (hi : i < env.length) (h8 : 8 ≤ i) : ∃ fp', Stt K g G H (env.set i (some o)) (σ.set i (some v)) ts fp' := by
  have hi2 : i < σ.length := by rw [S.len]; exact hi
  refine ⟨_, S.re (swp i ts.length) (swp_inj i ts.length) (by rw [List.length_set, List.length_set]; exact S.len) (fun j o' e => ?_) (fun ix o' v' e => ?_) fun j hj => List.getElem?_set_ne (by omega)⟩
  · by_cases h : i = j
    · subst h; exact ⟨v, by rw [List.getElem?_set_self hi2]⟩
    · rw [List.getElem?_set_ne h] at e ⊢; exact S.has j o' e
  · cases ix with
    | s j =>
      obtain ⟨e1, e2⟩ := att_of e
      by_cases h : i = j
      · subst h
        rw [List.getElem?_set_self hi] at e1
        rw [List.getElem?_set_self hi2] at e2
        cases e1; cases e2
        have : swp i ts.length (.s i) = .t ts.length := by unfold swp; rw [if_pos rfl]
        rw [this, att_push, if_pos rfl]
      · rw [List.getElem?_set_ne h] at e1 e2
        have : swp i ts.length (.s j) = .s j := by unfold swp; rw [if_neg (by intro z; injection z with z; exact h z.symm), if_neg (by intro z; cases z)]
        rw [this]; exact att_is e1 e2
    | t j =>
      have e : ts[j]? = some (o', v') := e
      have hj : j < ts.length := (List.getElem?_eq_some_iff.mp e).1
      have : swp i ts.length (.t j) = .t j := by unfold swp; rw [if_neg (by intro z; cases z), if_neg (by intro z; injection z with z; omega)]
      rw [this]
      show (ts ++ [(o, v)])[j]? = _
      rw [List.getElem?_append_left hj]; exact e
theorem Stt.storeV {d : D} {v : V} {i : Nat} (S : Stt K g G H env σ ts fp) (dp : Dp K G v d) (hi : i < env.length) (h8 : 8 ≤ i) : ∃ fp', Stt K g G H (env.set i (some (.val d))) (σ.set i (some v)) ts fp' := by
  obtain ⟨fp1, S1⟩ := S.pushVal dp
  exact S1.store hi h8
end
/-- but for these slots nothing changed -/
def Chg (is : List Nat) (σ σ' : L2.St) : Prop := σ'.length = σ.length ∧ ∀ j, j ∉ is → σ'[j]? = σ[j]?
theorem Chg.refl (is : List Nat) (σ : L2.St) : Chg is σ σ := ⟨rfl, fun _ _ => rfl⟩
theorem Chg.trans {is : List Nat} {a b c : L2.St} (x : Chg is a b) (y : Chg is b c) : Chg is a c := ⟨y.1.trans x.1, fun j h => (y.2 j h).trans (x.2 j h)⟩
theorem Chg.set {is : List Nat} {σ : L2.St} {i : Nat} {v : Option V} (h : i ∈ is) : Chg is σ (σ.set i v) := ⟨List.length_set, fun j hj => List.getElem?_set_ne (by intro z; subst z; exact hj h)⟩
theorem Chg.sub {is js : List Nat} {a b : L2.St} (x : Chg is a b) (h : ∀ i ∈ is, i ∈ js) : Chg js a b := ⟨x.1, fun j hj => x.2 j fun z => hj (h j z)⟩
theorem wipe_in {σ : L2.St} {i : Nat} : ∀ {vs : List Nat}, i ∈ vs → i < σ.length → (wipe σ vs)[i]? = some none
  | v :: vs, h, hl => by
    unfold wipe
    by_cases q : v = i
    · subst q; exact List.getElem?_set_self (by rw [wipe_length]; exact hl)
    · rw [List.getElem?_set_ne q]
      exact wipe_in ((List.mem_cons.mp h).elim (fun z => absurd z.symm q) id) hl
theorem wipe_chg {vs : List Nat} {σ σ' : L2.St} (h : Chg vs σ σ') : wipe σ' vs = wipe σ vs := by
  apply List.ext_getElem?
  intro i
  by_cases hi : i ∈ vs
  · by_cases hl : i < σ.length
    · rw [wipe_in hi hl, wipe_in hi (by rw [h.1]; exact hl)]
    · rw [List.getElem?_eq_none (by rw [wipe_length, h.1]; omega), List.getElem?_eq_none (by rw [wipe_length]; omega)]
  · rw [wipe_out hi, wipe_out hi]; exact h.2 i hi
theorem wipe_is_chg (vs : List Nat) (σ : L2.St) : Chg vs σ (wipe σ vs) := ⟨wipe_length σ vs, fun j h => wipe_out h⟩

def tG (K : PySem.W.Frag) (is : List Nat) (tgf : D → Env → Option Env) : TG := fun v σ H Q => ∃ g G env ts fp d e', Stt K g G H env σ ts fp ∧ Dp K G v d ∧ tgf d env = some e' ∧ ∀ σ' G' H' fp', Ex G G' → Chg is σ σ' → Stt K g G' H' e' σ' ts fp' → Q σ' H'
def tGs (K : PySem.W.Frag) (is : List Nat) (js : List Nat) : TGs := fun vs σ H Q => ∃ g G env ts fp ds e', Stt K g G H env σ ts fp ∧ DpAll K G vs ds ∧ setAll [] js ds env = some e' ∧ ∀ σ' G' H' fp', Ex G G' → Chg is σ σ' → Stt K g G' H' e' σ' ts fp' → Q σ' H'
theorem setL_ge {i : Nat} {o : O} {e e' : Env} (h : setL [] i o e = some e') : 8 ≤ i := by
  unfold setL at h
  split at h
  · rename_i c
    simp only [Bool.and_eq_true, decide_eq_true_eq] at c
    exact c.2.2
  · cases h
theorem setL_some {i : Nat} {o : O} {e e' : Env} (h : setL [] i o e = some e') : i < e.length ∧ e' = e.set i (some o) := by
  unfold setL at h
  split at h
  · rename_i hb
    rw [Bool.and_eq_true] at hb
    cases h
    exact ⟨of_decide_eq_true hb.1, rfl⟩
  · cases h
section
variable {X : Cx} {pos : Pos}
/-- where a name may be stored -/
structure Nm (X : Cx) (i : Nat) (x : Str) : Prop where
  ix : X.N[i]? = some x
  loc : Loc X.env.scope x
  fn : X.fn x = true ∨ X.env.scope.names.lookup x = some .local
theorem sg_name {i : Nat} {x : Str} (hN : X.N.Nodup) (n : Nm X i x) {is : List Nat} (hi : i ∈ is) : PG X (.Name x pos) (tG X.K is (tgF [] (.name i))) :=
  pg_imp (pg_name hN n.ix n.loc n.fn) fun v σ H Q ⟨g, G, env, ts, fp, d, e', S, dp, he, k⟩ => by
    obtain ⟨h1, rfl⟩ := setL_some he
    obtain ⟨fp', S'⟩ := S.storeV dp h1 (setL_ge he)
    exact k _ G H fp' (Ex.refl G) (Chg.set hi) S'
theorem sgs_nil {is : List Nat} : PGs X [] (tGs X.K is []) := ⟨fun pins s σ H vs us Q I r ⟨g, G, env, ts, fp, ds, e', S, dp, he, k⟩ => by
  cases ds with
  | nil =>
    cases dp
    cases r
    have : env = e' := Option.some.inj he
    subst this
    exact pgs_nil.run pins s σ H [] [] Q I .nil ⟨rfl, k σ G H fp (Ex.refl G) (Chg.refl _ _) S⟩
  | cons d ds => cases he⟩
theorem sgs_cons {i : Nat} {x : Str} {es : List Expr} {js : List Nat} {is : List Nat} (hN : X.N.Nodup) (n : Nm X i x) (hi : i ∈ is) (h : PGs X es (tGs X.K is js)) : PGs X (.Name x pos :: es) (tGs X.K is (i :: js)) := by
  refine ⟨fun pins s σ H vs us Q I r ⟨g, G, env, ts, fp, ds, e', S, dp, he, k⟩ => ?_⟩
  cases ds with
  | nil => cases he
  | cons d ds =>
    cases dp with
    | @cons v _ _ _ a t =>
      have he : (setL [] i (.val d) env).bind (setAll [] js ds) = some e' := he
      cases q : setL [] i (.val d) env with
      | none => rw [q] at he; cases he
      | some e1 =>
        rw [q] at he
        obtain ⟨h1, rfl⟩ := setL_some q
        obtain ⟨fp', S'⟩ := S.storeV a h1 (setL_ge q)
        exact (pgs_cons (pg_name hN n.ix n.loc n.fn) h).run pins s σ H _ us Q I r ⟨v, _, rfl, ⟨g, G, _, ts, fp', ds, e', S', t, he, fun σ' G' H' fp2 x c S2 => k σ' G' H' fp2 x ((Chg.set hi).trans c) S2⟩⟩
theorem setAll_len : ∀ {js : List Nat} {ds : List D} {e e' : Env}, setAll [] js ds e = some e' → ds.length = js.length
  | [], [], _, _, _ => rfl
  | [], _ :: _, _, _, h => by cases h
  | _ :: _, [], _, _, h => by cases h
  | i :: js, d :: ds, e, e', h => by
    have h : (setL [] i (.val d) e).bind (setAll [] js ds) = some e' := h
    cases q : setL [] i (.val d) e with
    | none => rw [q] at h; cases h
    | some e1 => rw [q] at h; rw [List.length_cons, List.length_cons, setAll_len (js := js) h]
theorem sg_tup {es : List Expr} {k : Nat} {is js : List Nat} (hc : X.calm = true) (h : PGs X es (tGs X.K is js)) (hn : (assignEach es X.env).length = js.length) (hst : (assignEach es X.env).findIdx? (·.1) = none) : PG X (.Tuple es k pos) (tG X.K is (tgF [] (.tup js))) := by
  refine ⟨fun pins s σ H v u Q I r ⟨g, G, env, ts, fp, d, e', S, dp, he, kk⟩ => ?_⟩
  cases d with
  | tuple ds =>
    have he : setAll [] js ds env = some e' := he
    cases dp with
    | tup hq ha => exact (pg_tup hc h hn hst).run pins s σ H _ u Q I r ⟨_, _, rfl, S.sub.sqt hq, by rw [dps_len ha, setAll_len he], g, G, env, ts, fp, ds, e', S, ha, he, kk⟩
  | list ds =>
    have he : setAll [] js ds env = some e' := he
    cases dp with
    | lst hq ha => exact (pg_unl hc h hn hst).run pins s σ H _ u Q I r ⟨_, _, rfl, S.sub.sql hq, by rw [dps_len ha, setAll_len he], g, G, env, ts, fp, ds, e', S, ha, he, kk⟩
  | none => cases he
  | bool z => cases he
  | int z => cases he
  | str z => cases he
  | dict z => cases he
end

def AftS (T : Tab) (K : PySem.W.Frag) (W : WX) (g : Gh) (ts : Tmp) (D : Ends) (G : Hp) (r : Out Fl) : Prop := match r with
  | .ok .nx e => ∀ σ G' H' fp', Ex G G' → Stt K g G' H' e σ ts fp' → D.nx σ H'
  | .ok .brk e => ∀ σ G' H' fp', Ex G G' → Stt K g G' H' e σ ts fp' → D.bk σ H'
  | .ok .ct e => ∀ σ G' H' fp', Ex G G' → Stt K g G' H' e σ ts fp' → D.ct σ H'
  | .ok (.ret o) e => ∀ σ v G' H' fp', Ex G G' → Stt K g G' H' e σ (ts ++ [(o, v)]) fp' → D.rt v H'
  | .exc x e => ∀ σ cls d G' H' fp', Ex G G' → Stt K g G' H' e σ ts fp' → XR T K G' H' x cls d → W cls d σ H'
  | .no => False
def tS (T : Tab) (K : PySem.W.Frag) (W : WX) (m : M Fl) : TS := fun D σ H => ∃ g G env ts fp, Stt K g G H env σ ts fp ∧ AftS T K W g ts D G (m env)
section
variable {T : Tab} {K : PySem.W.Frag} {W : WX} {g : Gh} {ts : Tmp} {G G1 : Hp} {D : Ends} {α : Type}
theorem AftS.up {r : Out Fl} (h : AftS T K W g ts D G r) (x : Ex G G1) : AftS T K W g ts D G1 r := by
  unfold AftS at h ⊢
  cases r with
  | ok f e => cases f with
    | nx => exact fun σ G' H' fp' q => h σ G' H' fp' (x.trans q)
    | brk => exact fun σ G' H' fp' q => h σ G' H' fp' (x.trans q)
    | ct => exact fun σ G' H' fp' q => h σ G' H' fp' (x.trans q)
    | ret o => exact fun σ v G' H' fp' q => h σ v G' H' fp' (x.trans q)
  | exc y e => exact fun σ cls d G' H' fp' q => h σ cls d G' H' fp' (x.trans q)
  | no => exact h
theorem AftS.bnd {m : M α} {f : α → M Fl} {env : Env} {σ : L2.St} (h : AftS T K W g ts D G (bnd m f env)) : Aft T K W g ts σ G (fun a e G1 => AftS T K W g ts D G (f a e)) (m env) := by
  unfold MP.bnd at h
  cases q : m env with
  | ok a e => rw [q] at h; exact h
  | exc x e => rw [q] at h; exact h σ
  | no => rw [q] at h; exact h
end
section
variable {X : Cx} {T : Tab} {W : WX} {e : Expr} {pos pos' : Pos} {st : Stmt} {rest a b : List Stmt} {m : M O} {n n1 n2 : M Fl} {t : M Bool} {i : Nat} {x : Str}
theorem ss_nil : PSs X [] (tS T X.K W sSkip) := pss_imp pss_nil fun D σ H ⟨g, G, env, ts, fp, S, h⟩ => h σ G H fp (Ex.refl G) S
theorem tS_next {D : Ends} {u : TS} {f : Fl → M Fl} {K : PySem.W.Frag} {g : Gh} {ts : Tmp} {G : Hp} {env : Env} (h : AftS T K W g ts D G (bnd n f env)) (hk : ∀ f', f' ≠ Fl.nx → f f' = pur f') (hu : ∀ e σ G' H' fp', Ex G G' → Stt K g G' H' e σ ts fp' → AftS T K W g ts D G (f .nx e) → u D σ H') :
    AftS T K W g ts { D with nx := u D } G (n env) := by
  unfold MP.bnd at h
  cases q : n env with
  | no => rw [q] at h; exact h
  | exc x e => rw [q] at h; exact h
  | ok fl e =>
    rw [q] at h
    cases fl with
    | nx => exact fun σ G' H' fp' z S => hu e σ G' H' fp' z S h
    | brk => have h : AftS T K W g ts D G (f .brk e) := h; rw [hk _ (by intro z; cases z)] at h; exact h
    | ct => have h : AftS T K W g ts D G (f .ct e) := h; rw [hk _ (by intro z; cases z)] at h; exact h
    | ret o => have h : AftS T K W g ts D G (f (.ret o) e) := h; rw [hk _ (by intro z; cases z)] at h; exact h
theorem ss_cons (h1 : PS X st (tS T X.K W n1)) (h2 : PSs X rest (tS T X.K W n2)) : PSs X (st :: rest) (tS T X.K W (sSeq n1 n2)) :=
  pss_imp (pss_cons h1 h2) fun D σ H ⟨g, G, env, ts, fp, S, h⟩ => ⟨g, G, env, ts, fp, S, tS_next h (fun f' hf => by cases f' <;> first | rfl | exact absurd rfl hf) fun e σ' G' H' fp' z S' q => ⟨g, G', e, ts, fp', S', q.up z⟩⟩
theorem ss_if (hc : PT X e (tB T X.K W t)) (ha : PSs X a (tS T X.K W n1)) (hb : PSs X b (tS T X.K W n2)) : PS X (.If e a b pos) (tS T X.K W (mIf t n1 n2)) :=
  ps_imp (ps_if hc ha hb) fun D σ H ⟨g, G, env, ts, fp, S, h⟩ => ⟨g, G, env, ts, fp, S, h.bnd.mono fun c e1 k G1 H1 fp1 z S1 => by
    cases c with
    | true => exact ⟨g, G1, e1, ts, fp1, S1, AftS.up k z⟩
    | false => exact ⟨g, G1, e1, ts, fp1, S1, AftS.up k z⟩⟩
theorem ss_drop (he : PE X e (tO T X.K W m)) (hs : swapsWith e none pos.line X.env = pure false) : PS X (.Expr e pos) (tS T X.K W (sDrop (fz m))) :=
  ps_imp (ps_expr (se_fz he) hs) fun D σ H ⟨g, G, env, ts, fp, S, h⟩ => ⟨g, G, env, ts, fp, S, h.bnd.mono fun c e1 k v G1 H1 fp1 z S1 _ => k σ G1 H1 fp1 z S1⟩
theorem ss_doc {s : Str} {j : Nat} : PS X (.Expr (.Constant (.str s) j pos) pos') (tS T X.K W sSkip) := ps_imp ps_doc fun D σ H ⟨g, G, env, ts, fp, S, h⟩ => h σ G H fp (Ex.refl G) S
theorem ss_pass : PS X (.Pass pos) (tS T X.K W sSkip) := ps_imp ps_pass fun D σ H ⟨g, G, env, ts, fp, S, h⟩ => h σ G H fp (Ex.refl G) S
def sBrk : M Fl := pur .brk
def sCt : M Fl := pur .ct
theorem ss_brk : PS X (.Break pos) (tS T X.K W sBrk) := ps_imp ps_break fun D σ H ⟨g, G, env, ts, fp, S, h⟩ => h σ G H fp (Ex.refl G) S
theorem ss_ct : PS X (.Continue pos) (tS T X.K W sCt) := ps_imp ps_continue fun D σ H ⟨g, G, env, ts, fp, S, h⟩ => h σ G H fp (Ex.refl G) S
theorem ss_ret (he : PE X e (tO T X.K W m)) : PS X (.Return (some e) pos) (tS T X.K W (sRet m)) :=
  ps_imp (ps_ret he) fun D σ H ⟨g, G, env, ts, fp, S, h⟩ => ⟨g, G, env, ts, fp, S, h.bnd.mono fun o e1 k v G1 H1 fp1 z S1 => k σ v G1 H1 fp1 z S1⟩
theorem ss_retN : PS X (.Return none pos) (tS T X.K W sRetN) :=
  ps_imp ps_retN fun D σ H ⟨g, G, env, ts, fp, S, h⟩ => by
    obtain ⟨fp', S'⟩ := S.pushVal (d := .none) .non
    exact h σ .non G H fp' (Ex.refl G) S'
/-- the reading of name = e -/
theorem asg_imp {te : TE} (he : ∀ σ H Q, tO T X.K W m σ H Q → te σ H Q) (D : Ends) (σ : L2.St) (H : Hp) (h : tS T X.K W (sSet [] i m) D σ H) : tAsg te (gName i) D σ H := by
  obtain ⟨g, G, env, ts, fp, S, h⟩ := h
  refine he _ _ _ ⟨g, G, env, ts, fp, S, h.bnd.mono fun o e1 k v G1 H1 fp1 z S1 => ?_⟩
  cases q : setL [] i o e1 with
  | none => rw [q] at k; exact k.elim
  | some e2 =>
    rw [q] at k
    obtain ⟨h1, rfl⟩ := setL_some q
    obtain ⟨fp2, S2⟩ := S1.store h1 (setL_ge q)
    exact k _ G1 H1 fp2 z S2
theorem ss_set (hN : X.N.Nodup) (n : Nm X i x) (he : PE X e (tO T X.K W m)) (hs : swapsWith e (some (.Name x pos')) pos.line X.env = pure false) : PS X (.Assign [.Name x pos'] e pos) (tS T X.K W (sSet [] i m)) :=
  ps_imp (ps_set hN n.ix n.loc he hs n.fn) (asg_imp fun _ _ _ h => h)
theorem ss_tgt {tg : Expr} {tgf : D → Env → Option Env} {is : List Nat} (he : PE X e (tO T X.K W m)) (hg : PG X tg (tG X.K is tgf)) (hs : swapsWithSole [tg] e pos.line X.env = pure false) (hw : swappedStores [tg] e X.env = pure none) (h1 : (assignEach [tg] X.env).map (·.2) = [assign tg X.env]) :
    PS X (.Assign [tg] e pos) (tS T X.K W (sTgt tgf (fz m))) :=
  ps_imp (ps_asg (se_fz he) hg hs hw h1) fun D σ H ⟨g, G, env, ts, fp, S, h⟩ => ⟨g, G, env, ts, fp, S, h.bnd.mono fun d e1 k v G1 H1 fp1 z S1 dp => by
    cases q : tgf d e1 with
    | none => rw [q] at k; exact k.elim
    | some e2 =>
      rw [q] at k
      exact ⟨g, G1, e1, ts, fp1, d, e2, S1, dp, q, fun σ' G' H' fp' y _ S' => k σ' G' H' fp' (z.trans y) S'⟩⟩
theorem ss_par {j : Nat} {y : Str} {e1 e2 : Expr} {mm : M O} {px py pt : Pos} {kt k2 : Nat} {pt2 : Pos} (hc : X.calm = true) (hN : X.N.Nodup) (hi : X.N[i]? = some x) (hj : X.N[j]? = some y) (hij : i ≠ j)
    (hx : X.env.scope.names.lookup x = some .local) (hy : X.env.scope.names.lookup y = some .local) (h1 : PE X e1 (tO T X.K W m)) (h2 : PE X e2 (tO T X.K W mm)) (s1 : starEach [e1, e2] X.env = (false, eval e1 X.env) :: starEach [e2] X.env) (s2 : starEach [e2] X.env = [(false, eval e2 X.env)])
    (hw : swappedStores [.Tuple [.Name x px, .Name y py] kt pt] (.Tuple [e1, e2] k2 pt2) X.env = pure (some [x, y]))
    (hs : swapsWithSole [.Tuple [.Name x px, .Name y py] kt pt] (.Tuple [e1, e2] k2 pt2) pos.line X.env = pure false) :
    PS X (.Assign [.Tuple [.Name x px, .Name y py] kt pt] (.Tuple [e1, e2] k2 pt2) pos) (tS T X.K W (sPar [] i j m mm)) :=
  ps_imp (ps_par hc hN hi hj hij hx hy (pa_cons h1 (pa_cons h2 pa_nil s2) s1) hw hs) fun D σ H ⟨g, G, env, ts, fp, S, h⟩ => ⟨g, G, env, ts, fp, S, h.bnd.mono fun o ea k v G1 H1 fp1 z S1 => ⟨g, G1, ea, ts ++ [(o, v)], fp1, S1, by
    have k : AftS T X.K W g ts D G1 (bnd mm (fun o' e => match (setL [] i o e).bind (setL [] j o') with
      | some e' => Out.ok Fl.nx e'
      | none => Out.no) ea) := AftS.up k z
    unfold MP.bnd at k
    cases q : mm ea with
    | no => rw [q] at k; exact k.elim
    | exc ex e3 => rw [q] at k; exact fun cls d G' H' fp' y S' xr => k σ cls d G' H' fp' y S'.drop xr
    | ok o2 e3 =>
      rw [q] at k
      intro w G' H' fp' y S'
      have k : AftS T X.K W g ts D G1 (match (setL [] i o e3).bind (setL [] j o2) with
        | some e' => Out.ok Fl.nx e'
        | none => Out.no) := k
      cases q1 : setL [] i o e3 with
      | none => rw [q1] at k; exact k.elim
      | some e4 =>
        obtain ⟨l1, rfl⟩ := setL_some q1
        rw [q1] at k
        have k : AftS T X.K W g ts D G1 (match setL [] j o2 (e3.set i (some o)) with
          | some e' => Out.ok Fl.nx e'
          | none => Out.no) := k
        cases q2 : setL [] j o2 (e3.set i (some o)) with
        | none => rw [q2] at k; exact k.elim
        | some e5 =>
          obtain ⟨l2, rfl⟩ := setL_some q2
          rw [q2] at k
          rw [List.length_set] at l2
          obtain ⟨fp3, S3⟩ := S'.store l2 (setL_ge q2)
          obtain ⟨fp4, S4⟩ := S3.store (i := i) (by rw [List.length_set]; exact l1) (setL_ge q1)
          rw [List.set_comm _ _ (Ne.symm hij), List.set_comm _ _ (Ne.symm hij)] at S4
          exact ⟨v, w, rfl, k _ G' H' fp4 y S4⟩⟩⟩
end
end MP

set_option Elab.async false
set_option linter.all false
set_option maxRecDepth 100000
set_option maxHeartbeats 4000000
namespace MP
open PySem PySem.Spec PyProof.Rows L2

section
variable {K : PySem.W.Frag} {g : Gh} {G H H' : Hp} {env env' : Env} {σ σ' : L2.St} {ts ts' : Tmp} {fp : Ix → List Addr}
/-- slots and temporaries moved, or given plain values -/
theorem Stt.reV (S : Stt K g G H env σ ts fp) (π : Ix → Ix) (inj : ∀ ix jx, π ix = π jx → ix = jx) (hl : σ'.length = env'.length) (hh : ∀ (i : Nat) (o : O), env'[i]? = some (some o) → ∃ v : V, σ'[i]? = some (some v))
    (ha : ∀ ix o v, att env' σ' ts' ix = some (o, v) → att env σ ts (π ix) = some (o, v) ∨ ∃ d, o = .val d ∧ Dp K G v d) (hk : ∀ (j : Nat) (x : Option V), j < 8 → g.S0[j]? = some x → σ'[j]? = some x) : ∃ fp', Stt K g G H env' σ' ts' fp' := by
  refine ⟨fun ix => match att env' σ' ts' ix with
    | some (.val _, _) => []
    | _ => fp (π ix), hl, hh, S.sub, fun ix o v e => ?_, fun ix => ?_, fun ix jx a h1 h2 => ?_, fun ix a h => ?_, S.fr, S.dm, S.g0, S.go, hk⟩
  · show RO K G H o v (match att env' σ' ts' ix with | some (.val _, _) => [] | _ => fp (π ix))
    rw [e]
    rcases ha ix o v e with q | ⟨d, rfl, q⟩
    · have r := S.rep _ o v q
      cases o with
      | val d => exact .val (ro_val r).2
      | lst os => exact r
      | tup os => exact r
    · exact .val q
  · try dsimp only
    split
    · exact List.nodup_nil
    · exact S.nd _
  · try dsimp only at h1 h2
    split at h1
    · cases h1
    · split at h2
      · cases h2
      · exact inj _ _ (S.dj _ _ a h1 h2)
  · try dsimp only at h
    split at h
    · cases h
    · exact S.ow _ a h
/-- what a place owns is written -/
theorem Stt.put (S : Stt K g G H env σ ts fp) {ix : Ix} {o' : O} {v : V} {F' : List Addr} (hs : ∀ b, b ∉ fp ix → H' b = H b) (hne : ∀ b, H b ≠ none → H' b ≠ none) (r : RO K G H' o' v F') (nd : F'.Nodup) (sub : ∀ a ∈ F', a ∈ fp ix)
    (hl : σ'.length = env'.length) (hh : ∀ (i : Nat) (o : O), env'[i]? = some (some o) → ∃ v : V, σ'[i]? = some (some v)) (h1 : ∀ o2 v2, att env' σ' ts' ix = some (o2, v2) → o2 = o' ∧ v2 = v) (h2 : ∀ jx o2 v2, jx ≠ ix → att env' σ' ts' jx = some (o2, v2) → att env σ ts jx = some (o2, v2)) (hk : ∀ j : Nat, j < 8 → σ'[j]? = σ[j]? := by exact fun _ _ => rfl) :
    Stt K g G H' env' σ' ts' (fun jx => if jx = ix then F' else fp jx) where
  len := hl
  has := hh
  sub := fun a u e => by
    rw [hs a fun z => by rw [(S.ow ix a z).1] at e; cases e]; exact S.sub a u e
  rep := fun jx o2 v2 e => by
    by_cases q : jx = ix
    · subst q; rw [if_pos rfl]
      obtain ⟨rfl, rfl⟩ := h1 o2 v2 e
      exact r
    · rw [if_neg q]
      exact ro_mono (Ex.refl G) _ _ _ (fun a ha => hs a fun z => q (S.dj _ _ a ha z)) (S.rep jx o2 v2 (h2 jx o2 v2 q e))
  nd := fun jx => by
    by_cases q : jx = ix
    · rw [if_pos q]; exact nd
    · rw [if_neg q]; exact S.nd jx
  dj := fun jx kx a ha hb => by
    have e1 : a ∈ fp jx := by
      by_cases q : jx = ix
      · rw [if_pos q] at ha; rw [q]; exact sub a ha
      · rw [if_neg q] at ha; exact ha
    have e2 : a ∈ fp kx := by
      by_cases q : kx = ix
      · rw [if_pos q] at hb; rw [q]; exact sub a hb
      · rw [if_neg q] at hb; exact hb
    exact S.dj _ _ a e1 e2
  ow := fun jx a ha => by
    have e1 : a ∈ fp jx := by
      by_cases q : jx = ix
      · rw [if_pos q] at ha; rw [q]; exact sub a ha
      · rw [if_neg q] at ha; exact ha
    obtain ⟨h1, h2, h3⟩ := S.ow jx a e1
    exact ⟨h1, hne a h2, h3⟩
  fr := fun b u h1 h2 => by
    rw [hs b fun z => by
      rcases (S.ow ix b z).2.2 with y | y
      · exact h2 y
      · rw [h1] at y; cases y]
    exact S.fr b u h1 h2
  dm := fun b h => hne b (S.dm b h)
  g0 := S.g0
  go := S.go
  kp := fun j x h1 h2 => (hk j h1).trans (S.kp j x h1 h2)
end
theorem wipeE_len (e : Env) : ∀ ws : List Nat, (wipeE e ws).length = e.length
  | [] => rfl
  | v :: vs => by unfold wipeE; rw [List.length_set, wipeE_len e vs]
theorem wipeE_out {e : Env} {i : Nat} : ∀ {ws : List Nat}, i ∉ ws → (wipeE e ws)[i]? = e[i]?
  | [], _ => rfl
  | v :: vs, h => by
    unfold wipeE
    rw [List.getElem?_set_ne fun z => h (by rw [z]; exact List.mem_cons_self)]
    exact wipeE_out fun z => h (List.mem_cons_of_mem _ z)
theorem wipeE_in {e : Env} {i : Nat} : ∀ {ws : List Nat}, i ∈ ws → i < e.length → (wipeE e ws)[i]? = some none
  | v :: vs, h, hl => by
    unfold wipeE
    by_cases q : v = i
    · subst q; exact List.getElem?_set_self (by rw [wipeE_len]; exact hl)
    · rw [List.getElem?_set_ne q]
      exact wipeE_in ((List.mem_cons.mp h).elim (fun z => absurd z.symm q) id) hl
theorem wipeE_idem (e : Env) (ws : List Nat) : wipeE (wipeE e ws) ws = wipeE e ws := by
  apply List.ext_getElem?
  intro i
  by_cases hi : i ∈ ws
  · by_cases hl : i < e.length
    · rw [wipeE_in hi (by rw [wipeE_len]; exact hl), wipeE_in hi hl]
    · rw [List.getElem?_eq_none (by rw [wipeE_len, wipeE_len]; omega), List.getElem?_eq_none (by rw [wipeE_len]; omega)]
  · rw [wipeE_out hi]
theorem backE_len (e0 e : Env) : ∀ ws : List Nat, (backE e0 e ws).length = e.length
  | [] => rfl
  | v :: vs => by unfold backE; rw [List.length_set, backE_len e0 e vs]
theorem backE_out {e0 e : Env} {i : Nat} : ∀ {ws : List Nat}, i ∉ ws → (backE e0 e ws)[i]? = e[i]?
  | [], _ => rfl
  | v :: vs, h => by
    unfold backE
    rw [List.getElem?_set_ne fun z => h (by rw [z]; exact List.mem_cons_self)]
    exact backE_out fun z => h (List.mem_cons_of_mem _ z)
theorem backE_in {e0 e : Env} {i : Nat} : ∀ {ws : List Nat}, i ∈ ws → i < e.length → (backE e0 e ws)[i]? = some ((e0[i]?).getD none)
  | v :: vs, h, hl => by
    unfold backE
    by_cases q : v = i
    · subst q; exact List.getElem?_set_self (by rw [backE_len]; exact hl)
    · rw [List.getElem?_set_ne q]
      exact backE_in ((List.mem_cons.mp h).elim (fun z => absurd z.symm q) id) hl
section
variable {K : PySem.W.Frag} {g : Gh} {G G2 H H2 : Hp} {e e1 : Env} {σ : L2.St} {ts ts2 : Tmp} {fp fp2 : Ix → List Addr} {ws : List Nat}
theorem Stt.wiped (S : Stt K g G H e σ ts fp) (ws : List Nat) (h8 : ∀ i ∈ ws, 8 ≤ i) : ∃ fp', Stt K g G H (wipeE e ws) (wipe σ ws) ts fp' := by
  refine ⟨fp, S.re id (fun _ _ h => h) (by rw [wipe_length, wipeE_len]; exact S.len) (fun i o h => ?_) (fun ix o v h => ?_) fun j hj => wipe_out fun z => by have := h8 j z; omega⟩
  · by_cases hi : i ∈ ws
    · by_cases hl : i < e.length
      · rw [wipeE_in hi hl] at h; cases h
      · rw [List.getElem?_eq_none (by rw [wipeE_len]; omega)] at h; cases h
    · rw [wipeE_out hi] at h
      rw [wipe_out hi]; exact S.has i o h
  · cases ix with
    | t j => exact h
    | s j =>
      obtain ⟨h1, h2⟩ := att_of h
      by_cases hi : j ∈ ws
      · by_cases hl : j < e.length
        · rw [wipeE_in hi hl] at h1; cases h1
        · rw [List.getElem?_eq_none (by rw [wipeE_len]; omega)] at h1; cases h1
      · rw [wipeE_out hi] at h1
        rw [wipe_out hi] at h2
        exact att_is h1 h2
/-- behind a comprehension: its names have what they had -/
theorem Stt.backed (S : Stt K g G H (wipeE e ws) (wipe σ ws) ts fp) (S2 : Stt K g G2 H2 e1 σ ts2 fp2) (x : Ex G2 G) (hp : ws.all (plainAt e1) = true) : ∃ fp', Stt K g G H (backE e1 e ws) σ ts fp' := by
  have hle : e.length = σ.length := by
    have := S.len
    rw [wipe_length, wipeE_len] at this; exact this.symm
  have hl1 := S2.len
  have plain : ∀ j ∈ ws, ∀ o, (backE e1 e ws)[j]? = some (some o) → ∃ d v, o = .val d ∧ σ[j]? = some (some v) ∧ Dp K G v d := fun j hj o h => by
    have hl : j < e.length := by
      by_cases q : j < e.length
      · exact q
      · rw [List.getElem?_eq_none (by rw [backE_len]; omega)] at h; cases h
    rw [backE_in hj hl] at h
    have pl := List.all_eq_true.mp hp j hj
    unfold plainAt at pl
    cases q : e1[j]? with
    | none => rw [q] at h; cases h
    | some oo =>
      rw [q] at h
      have h : oo = some o := Option.some.inj h
      subst h
      rw [q] at pl
      cases o with
      | val d =>
        obtain ⟨v, hv, r⟩ := S2.get q
        exact ⟨d, v, rfl, hv, Dpm x (ro_val r).2⟩
      | lst os => cases pl
      | tup os => cases pl
  refine S.reV id (fun _ _ h => h) (by rw [backE_len, hle]) (fun i o h => ?_) (fun ix o v h => ?_) S2.kp
  · by_cases hi : i ∈ ws
    · obtain ⟨d, v, _, hv, _⟩ := plain i hi o h
      exact ⟨v, hv⟩
    · rw [backE_out hi] at h
      obtain ⟨v, hv⟩ := S.has i o (by rw [wipeE_out hi]; exact h)
      rw [wipe_out hi] at hv
      exact ⟨v, hv⟩
  · cases ix with
    | t j => exact .inl h
    | s j =>
      obtain ⟨h1, h2⟩ := att_of h
      by_cases hi : j ∈ ws
      · obtain ⟨d, v', e1, hv, dp⟩ := plain j hi o h1
        rw [h2] at hv; cases hv
        exact .inr ⟨d, e1, dp⟩
      · rw [backE_out hi] at h1
        exact .inl (att_is (by rw [wipeE_out hi]; exact h1) (by rw [wipe_out hi]; exact h2))
/-- an item more in the last temporary, a list -/
theorem Stt.appT {acc : List D} {d : D} {a : Addr} {v : V} (S : Stt K g G H e σ (ts ++ [(.lst (vals acc), .ref a)]) fp) (dp : Dp K G v d) : ∃ vs, H a = some (.lst vs) ∧ vs.length = acc.length ∧ ∃ fp', Stt K g G (upd H a (.lst (vs ++ [v]))) e σ (ts ++ [(.lst (vals (acc ++ [d])), .ref a)]) fp' := by
  have e0 : att e σ (ts ++ [(.lst (vals acc), .ref a)]) (.t ts.length) = some (.lst (vals acc), .ref a) := by rw [att_push, if_pos rfl]
  obtain ⟨a', vs, F, ea, eF, h1, h2⟩ := ro_lst (S.rep _ _ _ e0)
  cases ea
  obtain ⟨rfl, hd⟩ := of_ros_vals h2
  refine ⟨vs, h1, dps_len hd, _, S.put (ix := .t ts.length) (o' := .lst (vals (acc ++ [d]))) (v := .ref a) (F' := [a]) (fun b hb => ?_) (fun b hb => ?_) (.lst upd_same (ros_vals (dps_app hd (.cons dp .nil)))) (by simp) (fun x hx => by rw [eF]; exact hx) S.len S.has (fun o2 v2 h => ?_) fun jx o2 v2 hj h => ?_⟩
  · rw [eF] at hb
    exact upd_ne fun z => hb (by rw [z]; exact List.mem_cons_self)
  · by_cases q : b = a
    · rw [q, upd_same]; simp
    · rw [upd_ne q]; exact hb
  · rw [att_push, if_pos rfl] at h; cases h; exact ⟨rfl, rfl⟩
  · rw [att_push, if_neg hj] at h ⊢; exact h
end

section
variable {X : Cx} {T : Tab} {W : WX} {e tg iter : Expr} {pos : Pos} {body : List Stmt} {it : Itm} {n : M Fl} {t : M Bool} {tgf : D → Env → Option Env} {is : List Nat}
theorem drop_at {α : Type} {l : List α} {i : Nat} (h : i < l.length) : ∃ d, l[i]? = some d ∧ l.drop i = d :: l.drop (i + 1) := ⟨l[i], List.getElem?_eq_getElem h, List.drop_eq_getElem_cons h⟩
theorem ss_for (hp : PassesOwn (model X.prog X.w) X.A X.env X.xe) (hc : X.calm = true) (hi : PI X tg iter (tI T X.K W it)) (hg : PG X tg (tG X.K is tgf)) (hb : PSs X body (tS T X.K W n)) (hs : ∀ x, foldedSetIterable iter X.env x = pure x) :
    PS X (.For tg iter body [] pos) (tS T X.K W (sFor it tgf n)) :=
  ps_imp (ps_for hp hc hi hg hb hs) fun D σ H ⟨g, G, env, ts, fp, S, h⟩ => ⟨g, G, env, ts, fp, S, h.bnd.mono fun ds e1 k J G2 H2 fp2 x2 S2 wk => by
    refine ⟨fun i m σ H => m + i = ds.length ∧ ∃ G3 e3 fp3, Ex G2 G3 ∧ Stt X.K g G3 H e3 σ ts fp3 ∧ AftS T X.K W g ts D G3 (forGo tgf n (ds.drop i) e3), ⟨ds.length, rfl, G2, e1, fp2, Ex.refl _, S2, AftS.up k x2⟩, ?_⟩
    rintro i m σ3 H3 ⟨hm, G3, e3, fp3, x3, S3, q3⟩
    cases m with
    | zero =>
      have hi : i = ds.length := by omega
      refine .inl ⟨(wk G3 H3 i x3 S3.sub).2 hi, ?_⟩
      rw [List.drop_eq_nil_of_le (by omega)] at q3
      exact q3 σ3 G3 H3 fp3 (Ex.refl _) S3
    | succ m =>
      obtain ⟨d, hd, hdr⟩ := drop_at (l := ds) (i := i) (by omega)
      obtain ⟨go, yl⟩ := (wk G3 H3 i x3 S3.sub).1 d hd
      refine .inr ⟨go, _, fun σ' H' w => ⟨m, Nat.lt_succ_self _, w⟩, fun v H' y => ?_⟩
      obtain ⟨G4, gr, dp⟩ := yl v H' y
      rw [hdr] at q3
      unfold forGo at q3
      cases q : tgf d e3 with
      | none => rw [q] at q3; exact q3.elim
      | some e4 =>
        rw [q] at q3
        refine ⟨g, G4, e3, ts, fp3, d, e4, S3.grow gr, dp, q, fun σ5 G5 H5 fp5 x5 _ S5 => ⟨g, G5, e4, ts, fp5, S5, ?_⟩⟩
        have x35 := gr.gg.trans x5
        dsimp only at q3
        cases qb : n e4 with
        | no => rw [qb] at q3; exact q3.elim
        | exc y e5 => rw [qb] at q3; exact AftS.up (r := .exc y e5) (D := D) q3 x35
        | ok f e5 =>
          rw [qb] at q3
          cases f with
          | nx => exact fun σ6 G6 H6 fp6 x6 S6 => ⟨by omega, G6, e5, fp6, x3.trans (x35.trans x6), S6, AftS.up q3 (x35.trans x6)⟩
          | ct => exact fun σ6 G6 H6 fp6 x6 S6 => ⟨by omega, G6, e5, fp6, x3.trans (x35.trans x6), S6, AftS.up q3 (x35.trans x6)⟩
          | brk => exact AftS.up (r := .ok .nx e5) (D := D) q3 x35
          | ret o => exact AftS.up (r := .ok (.ret o) e5) (D := D) q3 x35⟩
theorem ss_while {N : Nat} (hp : PassesOwn (model X.prog X.w) X.A X.env X.xe) (hc : PT X e (tB T X.K W t)) (hb : PSs X body (tS T X.K W n)) : PS X (.While e body [] pos) (tS T X.K W (whileGo t n N)) :=
  ps_imp (ps_while hp hc hb) fun D σ H ⟨g, G, env, ts, fp, S, h⟩ => by
    refine ⟨fun m σ H => ∃ G3 e3 fp3, Stt X.K g G3 H e3 σ ts fp3 ∧ AftS T X.K W g ts D G3 (whileGo t n m e3), ⟨N, G, env, fp, S, h⟩, ?_⟩
    rintro m σ3 H3 ⟨G3, e3, fp3, S3, q3⟩
    cases m with
    | zero => exact q3.elim
    | succ m =>
      refine ⟨g, G3, e3, ts, fp3, S3, ?_⟩
      unfold whileGo at q3
      cases q : t e3 with
      | no => rw [q] at q3; exact q3.elim
      | exc y e4 => rw [q] at q3; exact q3 σ3
      | ok b e4 =>
        rw [q] at q3
        intro G4 H4 fp4 x4 S4
        cases b with
        | false => exact q3 σ3 G4 H4 fp4 x4 S4
        | true =>
          rw [if_pos rfl]
          refine ⟨_, fun σ' H' w => ⟨m, Nat.lt_succ_self _, w⟩, g, G4, e4, ts, fp4, S4, ?_⟩
          dsimp only at q3
          cases qb : n e4 with
          | no => rw [qb] at q3; exact q3.elim
          | exc y e5 => rw [qb] at q3; exact AftS.up (r := .exc y e5) (D := D) q3 x4
          | ok f e5 =>
            rw [qb] at q3
            cases f with
            | nx => exact fun σ6 G6 H6 fp6 x6 S6 => ⟨G6, e5, fp6, S6, AftS.up q3 (x4.trans x6)⟩
            | ct => exact fun σ6 G6 H6 fp6 x6 S6 => ⟨G6, e5, fp6, S6, AftS.up q3 (x4.trans x6)⟩
            | brk => exact AftS.up (r := .ok .nx e5) (D := D) q3 x4
            | ret o => exact AftS.up (r := .ok (.ret o) e5) (D := D) q3 x4
end

abbrev W0 : WX := fun _ _ _ _ => False
section
variable {T : Tab} {K : PySem.W.Frag} {W : WX} {it : Itm} {ws : List Nat} {tgf : D → Env → Option Env} {cond : M Bool} {elt : M D}
theorem lc_imp {W1 : WX} (h8 : ∀ i ∈ ws, 8 ≤ i) (σ : L2.St) (H : Hp) (Q : VK) (h : tO T K W (mLc it ws tgf cond elt) σ H Q) : tLc (tI T K W it) (tG K ws tgf) (tB T K W1 cond) (tD T K W1 elt) ws σ H Q := by
  obtain ⟨g, G, env, ts, fp, S, h⟩ := h
  unfold mLc at h
  refine ⟨g, G, env, ts, fp, S, ?_⟩
  cases q1 : it env with
  | no => rw [q1] at h; exact h.elim
  | exc y e1 => rw [q1] at h; exact h
  | ok ds e1 =>
    rw [q1] at h
    intro J G2 H2 fp2 x2 S2 wk D hD
    dsimp only at h
    by_cases hp : ws.all (plainAt e1) = true
    · rw [if_pos hp] at h
      cases q2 : lcGo ws tgf cond elt ds e1 [] with
      | no => rw [q2] at h; exact h.elim
      | exc y e => rw [q2] at h; exact h.elim
      | ok accF eF =>
        rw [q2] at h
        have h : PO K g ts σ Q (.lst (vals accF)) (backE e1 eF ws) G := h
        refine ⟨fun i m H => m + i = ds.length ∧ ∃ G3 e3 fp3 acc, Ex G2 G3 ∧ Stt K g G3 H (wipeE e3 ws) (wipe σ ws) (ts ++ [(.lst (vals acc), .ref D)]) fp3 ∧ lcGo ws tgf cond elt (ds.drop i) e3 acc = .ok accF eF, ⟨ds.length, rfl, G2, e1, ?_⟩, ?_⟩
        · obtain ⟨fp3, S3⟩ := S2.wiped ws h8
          obtain ⟨fp4, S4⟩ := S3.pushNew (Grow.own (o := .lst []) S2.sub hD) hD (S2.sub.none hD) upd_same (.nil : DpAll K G2 [] [])
          exact ⟨fp4, [], Ex.refl _, S4, q2⟩
        · rintro i m H3 ⟨hm, G3, e3, fp3, acc, x3, S3, q3⟩
          cases m with
          | zero =>
            have hi : i = ds.length := by omega
            refine .inl ⟨(wk G3 H3 i x3 S3.sub).2 hi, ?_⟩
            rw [List.drop_eq_nil_of_le (by omega)] at q3
            unfold lcGo at q3
            cases q3
            obtain ⟨fp4, S4⟩ := S3.backed S2 x3 hp
            exact h _ G3 H3 fp4 (x2.trans x3) S4
          | succ m =>
            obtain ⟨d, hd, hdr⟩ := drop_at (l := ds) (i := i) (by omega)
            obtain ⟨go, yl⟩ := (wk G3 H3 i x3 S3.sub).1 d hd
            refine .inr ⟨go, _, fun H' w => ⟨m, Nat.lt_succ_self _, w⟩, fun v H' y => ?_⟩
            obtain ⟨G4, gr, dp⟩ := yl v H' y
            rw [hdr] at q3
            unfold lcGo at q3
            cases q : tgf d (wipeE e3 ws) with
            | none => rw [q] at q3; cases q3
            | some e4 =>
              rw [q] at q3
              dsimp only at q3
              refine ⟨g, G4, _, _, fp3, d, e4, S3.grow gr, dp, q, fun σ5 G5 H5 fp5 x5 ch S5 => ?_⟩
              have x35 := gr.gg.trans x5
              have ew : wipe σ5 ws = wipe σ ws := wipe_chg ((wipe_is_chg ws σ).trans ch)
              refine ⟨ew, g, G5, e4, _, fp5, S5, ?_⟩
              cases qc : cond e4 with
              | no => rw [qc] at q3; cases q3
              | exc y e => rw [qc] at q3; cases q3
              | ok b e5 =>
                rw [qc] at q3
                intro G6 H6 fp6 x6 S6
                cases b with
                | false =>
                  rw [if_neg Bool.false_ne_true]
                  obtain ⟨fp7, S7⟩ := S6.wiped ws h8
                  rw [ew] at S7
                  exact ⟨by omega, G6, wipeE e5 ws, fp7, acc, x3.trans (x35.trans x6), by rw [wipeE_idem]; exact S7, q3⟩
                | true =>
                  rw [if_pos rfl]
                  refine ⟨g, G6, e5, _, fp6, S6, ?_⟩
                  dsimp only at q3
                  cases qe : elt e5 with
                  | no => rw [qe] at q3; cases q3
                  | exc y e => rw [qe] at q3; cases q3
                  | ok z e6 =>
                    rw [qe] at q3
                    intro w G7 H7 fp7 x7 S7 dp7
                    obtain ⟨vs, h1, h2, fp8, S8⟩ := S7.appT dp7
                    dsimp only at q3
                    by_cases hz : decide (acc.length < sizeLine) = true
                    · rw [if_pos hz] at q3
                      obtain ⟨fp9, S9⟩ := S8.wiped ws h8
                      rw [ew] at S9
                      exact ⟨vs, h1, by rw [h2]; exact of_decide_eq_true hz, by omega, G7, wipeE e6 ws, fp9, acc ++ [z], x3.trans (x35.trans (x6.trans x7)), by rw [wipeE_idem]; exact S9, q3⟩
                    · rw [if_neg hz] at q3; cases q3
    · rw [if_neg hp] at h; exact h.elim
end
end MP

set_option Elab.async false
set_option linter.all false
set_option maxRecDepth 100000
set_option maxHeartbeats 4000000
namespace MP
open PySem PySem.Spec PyProof.Rows L2

def lcGoB (ws ws1 : List Nat) (tgf : D → Env → Option Env) (cond : M Bool) (it1 : Itm) (tgf1 : D → Env → Option Env) (cond1 : M Bool) (elt : M D) : List D → Env → List D → Out (List D)
  | [], e, acc => .ok acc e
  | d :: ds, e, acc => match tgf d (wipeE e ws) with
    | some e1 => match cond e1 with
      | .ok true e2 => match it1 e2 with
        | .ok es e3 => match lcGo ws1 tgf1 cond1 elt es e3 acc with
          | .ok acc' e4 => lcGoB ws ws1 tgf cond it1 tgf1 cond1 elt ds e4 acc'
          | _ => .no
        | _ => .no
      | .ok false e2 => lcGoB ws ws1 tgf cond it1 tgf1 cond1 elt ds e2 acc
      | _ => .no
    | none => .no
def mLcB (it : Itm) (ws ws1 : List Nat) (tgf : D → Env → Option Env) (cond : M Bool) (it1 : Itm) (tgf1 : D → Env → Option Env) (cond1 : M Bool) (elt : M D) : M O := fun e => match it e with
  | .ok ds e1 => if ws.all (plainAt e1) then match lcGoB ws ws1 tgf cond it1 tgf1 cond1 elt ds e1 [] with
    | .ok acc e2 => .ok (.lst (vals acc)) (backE e1 e2 ws)
    | _ => .no
    else .no
  | .exc x e1 => .exc x e1
  | .no => .no
theorem wipeE_sub (e : Env) {ws ws1 : List Nat} (h : ∀ i ∈ ws1, i ∈ ws) : wipeE (wipeE e ws1) ws = wipeE e ws := by
  apply List.ext_getElem?
  intro i
  by_cases hi : i ∈ ws
  · by_cases hl : i < e.length
    · rw [wipeE_in hi (by rw [wipeE_len]; exact hl), wipeE_in hi hl]
    · rw [List.getElem?_eq_none (by rw [wipeE_len, wipeE_len]; omega), List.getElem?_eq_none (by rw [wipeE_len]; omega)]
  · rw [wipeE_out hi, wipeE_out hi, wipeE_out fun z => hi (h i z)]
section
variable {T : Tab} {K : PySem.W.Frag} {W : WX} {it it1 : Itm} {ws ws1 : List Nat} {tgf tgf1 : D → Env → Option Env} {cond cond1 : M Bool} {elt : M D}
theorem lcB_imp {W1 : WX} (h8 : ∀ i ∈ ws, 8 ≤ i) (hsub : ∀ i ∈ ws1, i ∈ ws) (σ : L2.St) (H : Hp) (Q : VK) (h : tO T K W (mLcB it ws ws1 tgf cond it1 tgf1 cond1 elt) σ H Q) : tLc2 (tI T K W it) (tG K ws tgf) (tB T K W1 cond) (tI T K W1 it1) (tG K ws1 tgf1) (tB T K W1 cond1) (tD T K W1 elt) ws ws1 σ H Q := by
  obtain ⟨g, G, env, ts, fp, S, h⟩ := h
  unfold mLcB at h
  refine ⟨g, G, env, ts, fp, S, ?_⟩
  cases q1 : it env with
  | no => rw [q1] at h; exact h.elim
  | exc y e1 => rw [q1] at h; exact h
  | ok ds e1 =>
    rw [q1] at h
    intro J G2 H2 fp2 x2 S2 wk D hD
    dsimp only at h
    by_cases hp : ws.all (plainAt e1) = true
    · rw [if_pos hp] at h
      cases q2 : lcGoB ws ws1 tgf cond it1 tgf1 cond1 elt ds e1 [] with
      | no => rw [q2] at h; exact h.elim
      | exc y e => rw [q2] at h; exact h.elim
      | ok accF eF =>
        rw [q2] at h
        have h : PO K g ts σ Q (.lst (vals accF)) (backE e1 eF ws) G := h
        refine ⟨fun i m H => m + i = ds.length ∧ ∃ G3 e3 fp3 acc, Ex G2 G3 ∧ Stt K g G3 H (wipeE e3 ws) (wipe σ ws) (ts ++ [(.lst (vals acc), .ref D)]) fp3 ∧ lcGoB ws ws1 tgf cond it1 tgf1 cond1 elt (ds.drop i) e3 acc = .ok accF eF, ⟨ds.length, rfl, G2, e1, ?_⟩, ?_⟩
        · obtain ⟨fp3, S3⟩ := S2.wiped ws h8
          obtain ⟨fp4, S4⟩ := S3.pushNew (Grow.own (o := .lst []) S2.sub hD) hD (S2.sub.none hD) upd_same (.nil : DpAll K G2 [] [])
          exact ⟨fp4, [], Ex.refl _, S4, q2⟩
        · rintro i m H3 ⟨hm, G3, e3, fp3, acc, x3, S3, q3⟩
          cases m with
          | zero =>
            have hi : i = ds.length := by omega
            refine .inl ⟨(wk G3 H3 i x3 S3.sub).2 hi, ?_⟩
            rw [List.drop_eq_nil_of_le (by omega)] at q3
            unfold lcGoB at q3
            cases q3
            obtain ⟨fp4, S4⟩ := S3.backed S2 x3 hp
            exact h _ G3 H3 fp4 (x2.trans x3) S4
          | succ m =>
            obtain ⟨d, hd, hdr⟩ := drop_at (l := ds) (i := i) (by omega)
            obtain ⟨go, yl⟩ := (wk G3 H3 i x3 S3.sub).1 d hd
            refine .inr ⟨go, _, fun H' w => ⟨m, Nat.lt_succ_self _, w⟩, fun v H' y => ?_⟩
            obtain ⟨G4, gr, dp⟩ := yl v H' y
            rw [hdr] at q3
            unfold lcGoB at q3
            cases q : tgf d (wipeE e3 ws) with
            | none => rw [q] at q3; cases q3
            | some e4 =>
              rw [q] at q3
              dsimp only at q3
              refine ⟨g, G4, _, _, fp3, d, e4, S3.grow gr, dp, q, fun σ5 G5 H5 fp5 x5 ch S5 => ?_⟩
              have x35 := gr.gg.trans x5
              have ew : wipe σ5 ws = wipe σ ws := wipe_chg ((wipe_is_chg ws σ).trans ch)
              refine ⟨ew, g, G5, e4, _, fp5, S5, ?_⟩
              cases qc : cond e4 with
              | no => rw [qc] at q3; cases q3
              | exc y e => rw [qc] at q3; cases q3
              | ok b e5 =>
                rw [qc] at q3
                intro G6 H6 fp6 x6 S6
                cases b with
                | false =>
                  rw [if_neg Bool.false_ne_true]
                  obtain ⟨fp7, S7⟩ := S6.wiped ws h8
                  rw [ew] at S7
                  exact ⟨by omega, G6, e5, fp7, acc, x3.trans (x35.trans x6), S7, q3⟩
                | true =>
                  rw [if_pos rfl]
                  refine ⟨g, G6, e5, _, fp6, S6, ?_⟩
                  dsimp only at q3
                  cases qi : it1 e5 with
                  | no => rw [qi] at q3; cases q3
                  | exc y e => rw [qi] at q3; cases q3
                  | ok es e6 =>
                    rw [qi] at q3
                    intro J1 G7 H7 fp7 x7 S7 wk1
                    dsimp only at q3
                    cases q4 : lcGo ws1 tgf1 cond1 elt es e6 acc with
                    | no => rw [q4] at q3; cases q3
                    | exc y e => rw [q4] at q3; cases q3
                    | ok accI eI =>
                      rw [q4] at q3
                      refine ⟨fun j k H => k + j = es.length ∧ ∃ G8 e8 fp8 acc8, Ex G7 G8 ∧ Stt K g G8 H (wipeE e8 ws1) (wipe σ5 ws1) (ts ++ [(.lst (vals acc8), .ref D)]) fp8 ∧ lcGo ws1 tgf1 cond1 elt (es.drop j) e8 acc8 = .ok accI eI, ⟨es.length, rfl, G7, e6, ?_⟩, ?_⟩
                      · obtain ⟨fp8, S8⟩ := S7.wiped ws1 (fun i hi => h8 i (hsub i hi))
                        exact ⟨fp8, acc, Ex.refl _, S8, q4⟩
                      · rintro j k H8 ⟨hk, G8, e8, fp8, acc8, x8, S8, q8⟩
                        cases k with
                        | zero =>
                          have hj : j = es.length := by omega
                          refine .inl ⟨(wk1 G8 H8 j x8 S8.sub).2 hj, ?_⟩
                          rw [List.drop_eq_nil_of_le (by omega)] at q8
                          unfold lcGo at q8
                          cases q8
                          obtain ⟨fp9, S9⟩ := S8.wiped ws h8
                          rw [wipeE_sub _ hsub, wipe_chg ((wipe_is_chg ws1 σ5).sub hsub), ew] at S9
                          exact ⟨by omega, G8, eI, fp9, accI, x3.trans (x35.trans (x6.trans (x7.trans x8))), S9, q3⟩
                        | succ k =>
                          obtain ⟨d1, hd1, hdr1⟩ := drop_at (l := es) (i := j) (by omega)
                          obtain ⟨go1, yl1⟩ := (wk1 G8 H8 j x8 S8.sub).1 d1 hd1
                          refine .inr ⟨go1, _, fun H' w => ⟨k, Nat.lt_succ_self _, w⟩, fun v1 H9 y1 => ?_⟩
                          obtain ⟨G9, gr9, dp9⟩ := yl1 v1 H9 y1
                          rw [hdr1] at q8
                          unfold lcGo at q8
                          cases qg : tgf1 d1 (wipeE e8 ws1) with
                          | none => rw [qg] at q8; cases q8
                          | some e9 =>
                            rw [qg] at q8
                            dsimp only at q8
                            refine ⟨g, G9, _, _, fp8, d1, e9, S8.grow gr9, dp9, qg, fun σ10 G10 H10 fp10 x10 ch10 S10 => ?_⟩
                            have x810 := gr9.gg.trans x10
                            have ew1 : wipe σ10 ws1 = wipe σ5 ws1 := wipe_chg ((wipe_is_chg ws1 σ5).trans ch10)
                            refine ⟨ew1, g, G10, e9, _, fp10, S10, ?_⟩
                            cases qc1 : cond1 e9 with
                            | no => rw [qc1] at q8; cases q8
                            | exc y e => rw [qc1] at q8; cases q8
                            | ok b1 e10 =>
                              rw [qc1] at q8
                              intro G11 H11 fp11 x11 S11
                              cases b1 with
                              | false =>
                                rw [if_neg Bool.false_ne_true]
                                obtain ⟨fp12, S12⟩ := S11.wiped ws1 (fun i hi => h8 i (hsub i hi))
                                rw [ew1] at S12
                                exact ⟨by omega, G11, wipeE e10 ws1, fp12, acc8, x8.trans (x810.trans x11), by rw [wipeE_idem]; exact S12, q8⟩
                              | true =>
                                rw [if_pos rfl]
                                refine ⟨g, G11, e10, _, fp11, S11, ?_⟩
                                dsimp only at q8
                                cases qe : elt e10 with
                                | no => rw [qe] at q8; cases q8
                                | exc y e => rw [qe] at q8; cases q8
                                | ok z e11 =>
                                  rw [qe] at q8
                                  intro w G12 H12 fp12 x12 S12 dp12
                                  obtain ⟨vs, h1, h2, fp13, S13⟩ := S12.appT dp12
                                  dsimp only at q8
                                  by_cases hz : decide (acc8.length < sizeLine) = true
                                  · rw [if_pos hz] at q8
                                    obtain ⟨fp14, S14⟩ := S13.wiped ws1 (fun i hi => h8 i (hsub i hi))
                                    rw [ew1] at S14
                                    exact ⟨vs, h1, by rw [h2]; exact of_decide_eq_true hz, by omega, G12, wipeE e11 ws1, fp14, acc8 ++ [z], x8.trans (x810.trans (x11.trans x12)), by rw [wipeE_idem]; exact S14, q8⟩
                                  · rw [if_neg hz] at q8; cases q8
    · rw [if_neg hp] at h; exact h.elim
end
end MP

set_option Elab.async false
set_option linter.all false
set_option maxRecDepth 100000
set_option maxHeartbeats 4000000
namespace MP
open PySem PySem.Spec PyProof.Rows L2

section
variable {X : Cx} {e o : Expr} {es : List Expr} {ta : TA} {p p1 p2 pos : Pos}
/-- B.__init__(self, ..), B a class of the text that has ValueError's -/
theorem pe_binit {pl : Sem Bool} {x : Str} {B : Addr} (hg : Gl X x) (hm : X.mg x = some (.ref B)) (hs : PySem.W.specialIn X.K (.ref B) "__getattribute__" = some (some (.builtin "type.__getattribute__"))) (hr : PySem.W.readsIn X.K B (.type "type") = true)
    (hf : PySem.W.findCls X.K (.ref B) (.type "type") "__init__" = some (.val (.builtin "ValueError.__init__"))) (ha : PA X (e :: es) ta) (hdb : (x == ("__debug__" : Str)) = false)
    (hc : eval (.Call (.Attribute (.Name x p1) "__init__" p2) (e :: es) [] pos) X.env = (do
      let ov ← eval (.Name x p1) X.env
      standAt p2.atName
      let (f, first) ← holding [ov] (getMethod ov "__init__" pl)
      callWith pos f first (backTo pos (starEach (e :: es) X.env)) (backToKw pos (keywordEach [] X.env))))
    (he : starEach (e :: es) X.env = (false, eval e X.env) :: starEach es X.env) (hpl : (backTo pos (starEach es X.env)).any (·.1) = false) :
    PE X (.Call (.Attribute (.Name x p1) "__init__" p2) (e :: es) [] pos) (tVeI X.K ta) := by
  constructor
  intro pins s σ H Q I h
  refine PySem.W.methodCall_KW (ld_glob I hg hm ?_ hdb) hc
  refine PySem.W.method_cls I.kIn hs (PySem.W.cls_value I.kIn hr hf (by decide +kernel) ?_)
  show wpAny _ _ (callWith pos (Value.builtin "ValueError.__init__") [] (backTo pos (starEach (e :: es) X.env)) []) _ _ _
  refine PyProof.Rows.callWith_method1 (thn (ha.run pos pins _ σ H _ (I.tok _) h) ?_) he hpl
  rintro us s1 ⟨vs, H1, I1, r1, a, C, ws, ev, hl, T, ea, q⟩
  subst ev
  cases r1 with
  | @cons _ u0 _ ur ra rw' =>
    obtain rfl : u0 = Value.ref a := ra
    refine oinit_ok T I1 ea ?_ fun s' J => ⟨.non, H1, J, rfl, q⟩
    rw [← Paired.length rw', sizeLine_eq]
    omega
/-- C(e, ..) where nothing is handled -/
theorem pmkN {cx : CXT} {x : Str} {C fI : Addr} {k : Nat} {fd : FuncData} {ps : List Str} {sp : Sp} (T : OexC X.K C) (iC : PySem.W.findIn X.K (.ref C) "__init__" = some (some (.ref fI))) (tI : PySem.W.typeIn X.K (.ref fI) = some (.type "function"))
    (F1 : FnOk X.prog X.w X.K X.mg X.base cx k fI fd ps sp) (room : Room (k + 1) X.A) (hb : Binds X.K fd ps []) (hx : Passes cx X (fun _ _ _ => False)) (hg : Gl X x) (hm : X.mg x = some (.ref C)) (ha : PA X (e :: es) ta)
    (hdb : (x == ("__debug__" : Str)) = false) (he : starEach (e :: es) X.env = (false, eval e X.env) :: starEach es X.env) (hpl : (backTo pos (starEach es X.env)).any (·.1) = false) :
    L2N.PMk X (.Call (.Name x p) (e :: es) [] pos) (tMkO C sp [] ta) := by
  intro pins s σ H Q I h
  obtain ⟨nm, q, N, bs, bm, sn, sub, ab, col, dd, k0, k1, k2, k3, k5, hC, hbm⟩ := T.cls
  refine wpAny_Call_Name_kw (ld_glob I hg hm ?_ hdb)
  refine PySem.W.callWith_K (h₀ := X.base) I.ok.mod.kin T.kC (thn (ha.run pos pins s σ H _ I h) ?_) he hpl
  rintro us ⟨h0, gs, dr, tk, os⟩ ⟨vs, H1, I1, r1, hz, q1⟩
  refine ⟨I1.kIn, ?_⟩
  show wpAny _ _ (call (.ref C) us) _ _ _
  generalize hN : h0.objs.size = n
  have le : h0.objs.size ≤ n + 1 := by rw [hN]; exact Nat.le_succ _
  have fresh : H1 (n + 1) = none := I1.hok.fresh le
  have prom := q1 (n + 1) fresh
  rw [List.append_nil] at prom
  generalize hh1 : (h0.push (PySem.W.kdv_tup us)).push (PySem.HandSPX.excO C h0.objs.size) = h1
  have kept : ∀ b o, h0.get? b = some o → h1.get? b = some o := fun b o e => by rw [← hh1]; exact Heap.get?_push_of_some _ (Heap.get?_push_of_some _ e)
  have there : h1.get? (n + 1) = some (PySem.HandSPX.excO C h0.objs.size) := by rw [← hh1, ← hN]; heap_get
  have I2 : Inv X pins σ (upd H1 (n + 1) (exo (n + 1) C none)) ⟨h1, gs, dr, tk, os⟩ := I1.laid (t' := tk) (a := n + 1) (o := exo (n + 1) C none) (h' := h1) kept le (exo_ok there)
  have rel : Vals (V.ref (n + 1) :: vs) (Value.ref (n + 1) :: us) := .cons rfl r1
  have len : (Value.ref (n + 1) :: us).length = ps.length := rel.length.symm.trans (F1.len _ _ _ _ prom)
  have short : us.length ≤ sizeLine := by rw [← Paired.length r1, sizeLine_eq]; omega
  have bound := hb ⟨h1, gs, dr, tk, os⟩ (Value.ref (n + 1) :: us) I2.kIn (by rw [List.append_nil]; exact len)
  rw [List.append_nil] at bound
  subst hN hh1
  refine wpAny_call (PySem.HandSPX.call_own F.excBase_ValueError (fun Y => PySem.HandSPX.refsVE_contains Y bm hbm) (I1.kIn _ _ hC) (PySem.W.looks_findIn I1.kIn iC) (fun self => PySem.W.bind_fn I1.kIn self tI) short
    (codeAny_mono (F1.run _ X.stack _ _ ⟨Value.ref (h0.objs.size + 1) :: us, []⟩ (Value.ref (h0.objs.size + 1) :: us) _ _ (fun _ _ _ => False) (room.make C us []) (I2.env0.make C us []) bound rel prom) ?_))
  rintro (er | fl) s2 h2
  · exact hx pins σ _ _ er s2 I2 h2
  · cases fl with
    | ret u =>
      obtain ⟨v, H2, os2, bare2, un2, hok2, rv, ev, d, fs, ea, ed, hd1, q2⟩ := h2
      subst ev
      obtain ⟨h2, g2, d2, t2, os'⟩ := s2
      obtain ⟨t0, G, J, kG, ge, hoe, na⟩ := mk_end0 (d2 := d2) (t2 := t2) I1 le kept un2 hok2 os2 bare2 ea ed hd1
      refine ⟨rv, h0.objs.size + 1, _, _, ⟨G, g2, d2, t2, os'⟩, _, .ref C, some d, rfl, J, kG, ge, hoe, ⟨rfl, rfl, fun vs hv => ?_⟩, rfl, rfl, na, rfl, bare2, raises_own T.exC T.tyC, q2⟩
      cases hv
      rfl
    | next => exact h2.elim
    | brk => exact h2.elim
    | cont => exact h2.elim
end
/-- what __init__(self, y) of such a class promises -/
def spInit (C : Addr) (f : Str) : Sp := fun vs H Q _ => ∃ a y, vs = [.ref a, y] ∧ H a = some (exo a C none) ∧ ∀ d, H d = none → d ≠ a → Q .non (upd (upd H d (exd d [(f, y)])) a (exo a C (some d)))
/-- what the written part must say of such a class: x its name, B the class whose __init__ it calls by the name b -/
structure ExcK (K : PySem.W.Frag) (mg : Str → Option Value) (C : Addr) (x f : Str) : Prop where
  at_ : mg x = some (.ref C)
  oex : OexC K C
  nof : PySem.W.findIn K (.ref C) f = some none
  xf : XfC K C
  init : ∀ (P : Program) (w : World) (base : Heap) (cx : CXT), K.In base → ∃ fI fd, PySem.W.findIn K (.ref C) "__init__" = some (some (.ref fI)) ∧ PySem.W.typeIn K (.ref fI) = some (.type "function") ∧ Binds K fd ["self", f] [] ∧ FnOk P w K mg base cx 1 fI fd ["self", f] (spInit C f)
theorem init_ok {P : Program} {w : World} {K : PySem.W.Frag} {mg : Str → Option Value} {base : Heap} {cx : CXT} {C B fI : Addr} {b f nm qual : Str} {prm : Arguments} {sc : Scope} {dV kV doc pm cdv ct oc : Value} {an od : Option Addr} {osl : Array (Option Value)} {p1 p2 p3 p4 p5 p6 p7 p8 p9 p10 : Pos}
    (lk : K.lookup fI = some ⟨oc, od, .func (PySem.W.fnOf nm qual prm [.Expr (.Call (.Attribute (.Name b p1) "__init__" p2) [.Name "self" p3, .Name f p4] [] p5) p6, .Assign [.Attribute (.Name "self" p7) f p8] (.Name f p9) p10] sc dV kV doc pm an cdv ct), osl⟩)
    (code : PySem.W.codeIn K cdv qual = true) (S : FnScope ["self", f] ["self", f] sc) (hsf : (("self" : Str) == f) = false) (h1 : sc.names.lookup ("self" : Str) = some NameKind.local) (h2 : sc.names.lookup f = some NameKind.local) (hgb : sc.names.lookup b = some NameKind.globalImplicit) (hm : mg b = some (.ref B)) (T : OexC K C)
    (nof : PySem.W.findIn K (.ref C) f = some none) (hs : PySem.W.specialIn K (.ref B) "__getattribute__" = some (some (.builtin "type.__getattribute__"))) (hr : PySem.W.readsIn K B (.type "type") = true)
    (hf : PySem.W.findCls K (.ref B) (.type "type") "__init__" = some (.val (.builtin "ValueError.__init__"))) (hdb : (b == ("__debug__" : Str)) = false) (hdf : (f == ("__debug__" : Str)) = false) (hcf : (f == ("__classdict__" : Str)) = false) (hev : ∀ env : PySem.Env, ∃ pl : Sem Bool, eval (.Call (.Attribute (.Name b p1) "__init__" p2) [.Name "self" p3, .Name f p4] [] p5) env = (do
      let ov ← eval (.Name b p1) env
      standAt p2.atName
      let (f1, first) ← holding [ov] (getMethod ov "__init__" pl)
      callWith p5 f1 first (backTo p5 (starEach [.Name "self" p3, .Name f p4] env)) (backToKw p5 (keywordEach [] env)))) :
    FnOk P w K mg base cx 1 fI (PySem.W.fnOf nm qual prm [.Expr (.Call (.Attribute (.Name b p1) "__init__" p2) [.Name "self" p3, .Name f p4] [] p5) p6, .Assign [.Attribute (.Name "self" p7) f p8] (.Name f p9) p10] sc dV kV doc pm an cdv ct) ["self", f] (spInit C f) := by
  refine fn_of (k := 0) lk code S (fun vs H Q E ⟨a, y, e, _⟩ => by rw [e]; rfl) fun A outer s H vs Q E room ⟨a, y, e, ea, q⟩ => ?_
  subst e
  have P0 : ∀ {p}, PE (cxOf cx P w K mg base ["self", f] qual sc fI cdv A outer s H E) (.Name "self" p) (tVar 0) := fun {p} => pe_var rfl (.inl h1)
  have P1 : ∀ {p}, PE (cxOf cx P w K mg base ["self", f] qual sc fI cdv A outer s H E) (.Name f p) (tVar 1) := fun {p} => pe_var rfl (.inl h2) hdf hcf
  obtain ⟨pl, hc⟩ := hev (cxOf cx P w K mg base ["self", f] qual sc fI cdv A outer s H E).env
  refine ⟨_, pss_cons (ps_expr (pe_binit (pl := pl) hgb hm hs hr hf (pa_cons P0 (pa_cons P1 pa_nil)) hdb hc rfl rfl)) (pss_cons (ps_ost P0 P1) pss_nil), ?_⟩
  refine ⟨_, rfl, _, rfl, a, C, [y], rfl, Nat.le_of_ble_eq_true rfl, T, ea, _, rfl, _, rfl, a, C, rfl, T, nof, .inl ⟨ea, fun d hd hda => q d hd hda⟩⟩

section
variable {X : Cx} {T : Tab} {W : WX} {e : Expr} {x f : Str} {C : Addr} {m : M D} {p p2 pos : Pos}
theorem pass_none (P : Program) (w : World) (X : Cx) (hP : X.prog = P) (hw : X.w = w) : Passes (L2N.CX P w) X (fun _ _ _ => False) := fun _ _ _ _ _ _ _ ⟨_, _, _, _, _, _, _, _, _, _, _, _, h⟩ => h.elim
theorem mk_exc (room : Room 2 X.A) (E1 : ExcK X.K X.mg C x f) (hg : Gl X x) (hdb : (x == ("__debug__" : Str)) = false) {ta : TA} (ha : PA X [e] ta) (hs : starEach [e] X.env = [(false, eval e X.env)]) : L2N.PMk X (.Call (.Name x p) [e] [] p2) (tMkO C (spInit C f) [] ta) := by
  intro pins s σ H Q I h
  obtain ⟨fI, fd, iC, tI, bI, F1⟩ := E1.init X.prog X.w X.base (L2N.CX X.prog X.w) I.ok.mod.kin
  exact pmkN E1.oex iC tI F1 room bI (pass_none _ _ X rfl rfl) hg E1.at_ ha hdb hs rfl pins s σ H Q I h
theorem del_upd {H : Hp} {a d : Addr} {u1 u2 u3 u4 : HO} (ha : H a = none) (hda : d ≠ a) : upd (del (upd (upd (upd H a u1) d u2) a u3) a) d u4 = upd H d u4 := by
  funext b
  by_cases h1 : b = d
  · subst h1; rw [upd_same, upd_same]
  · rw [upd_ne h1, upd_ne h1]
    by_cases h2 : b = a
    · subst h2; rw [del_same, ha]
    · rw [del_ne h2, upd_ne h2, upd_ne h1, upd_ne h2]
theorem ss_raise (hc : X.calm = true) (tk : L2N.Takes X W) (room : Room 2 X.A) (E1 : ExcK X.K X.mg C x f) (hT : T.ca x = some C) (hf : T.fld x = f) (hg : Gl X x) (hdb : (x == ("__debug__" : Str)) = false) (he : PE X e (tO T X.K W n)) (hs : starEach [e] X.env = [(false, eval e X.env)]) :
    PS X (.Raise (some (.Call (.Name x p) [e] [] p2)) none pos) (tS T X.K W (sRaise x (some (fz n)))) := by
  refine ps_imp (L2N.ps_raise hc tk (mk_exc room E1 hg hdb (pa_cons (se_fz he) pa_nil hs) hs)) ?_
  rintro D σ H ⟨g, G, env, ts, fp, S, h⟩
  refine ⟨g, G, env, ts, fp, S, h.bnd.mono fun d e1 k v G1 H1 fp1 z S1 dp => ⟨Nat.le_of_ble_eq_true rfl, fun a ha => ⟨a, v, rfl, upd_same, fun dd hd hda => ?_⟩⟩⟩
  rw [upd_ne hda] at hd
  refine ⟨rfl, dd, [(f, v)], upd_same, by rw [upd_ne hda, upd_same], hd, ?_⟩
  rw [del_upd ha hda]
  have gr : Grow G1 H1 G1 (upd H1 dd (.xd [(f, v)])) := Grow.own S1.sub hd
  refine k σ (.ref C) (some dd) G1 _ fp1 z (S1.grow gr) ⟨C, hT, rfl, fun a' ea => ?_⟩
  cases ea
  exact ⟨dd, v, rfl, by rw [hf]; exact upd_same, dp⟩
/-- try: body except C as n: x = n.f -/
def sTryF (body : M Fl) (isC : Str → Option Bool) (fok : Str → Bool) (i j : Nat) : M Fl := fun e => match body e with
  | .exc x e' => match isC x.cls with
    | some true => match fok x.cls && decide (i < e'.length) && decide (j < e'.length) && decide (i ≠ j) && decide (8 ≤ i) && decide (8 ≤ j), x.arg with
      | true, some d => .ok .nx ((e'.set i none).set j (some (.val d)))
      | _, _ => .no
    | some false => .exc x e'
    | none => .no
  | r => r
theorem ss_tryF {n y cn : Str} {i j : Nat} {body : List Stmt} {nb : M Fl} {c : Value} {isC : Str → Option Bool} {fok : Str → Bool} {np pos' q1 q2 q3 q4 : Pos} (hcalm : X.calm = true) (hs : X.stack = X.env :: X.outer) (hf : X.env.frame = some X.env.locals) (hN : X.N.Nodup) (hi : X.N[i]? = some n) (hln : X.env.scope.names.lookup n = some .local)
    (hc : Names X cn c) (tk : L2N.Takes X W) (hj : X.N[j]? = some y) (hjl : X.env.scope.names.lookup y = some .local)
    (hb : ∀ (W' : WX) (pn : List (Addr × Obj)) (xe : Value → Shared → Prop), L2N.Takes (X.tr pn xe) W' → PassesOwn (model X.prog X.w) X.A X.env xe → PSs (X.tr pn xe) body (tS T X.K W' nb))
    (hC : ∀ c1 C b, T.ca c1 = some C → isC c1 = some b → PySem.W.exmOne X.K (.ref C) c = some b)
    (hF : ∀ c1 C, T.ca c1 = some C → fok c1 = true → T.fld c1 = f ∧ XfC X.K C ∧ PySem.W.findIn X.K (.ref C) f = some none)
    (hdn : (n == ("__debug__" : Str)) = false) (hcn : (n == ("__classdict__" : Str)) = false) (hba : attributeBase (.Name n q1) f X.env (eval (.Name n q1) X.env) = eval (.Name n q1) X.env) :
    PS X (.Try body [.ExceptHandler (some (.Name cn np)) (some n) [.Assign [.Name y q2] (.Attribute (.Name n q1) f q3) q4] pos'] [] [] pos) (tS T X.K W (sTryF nb isC fok i j)) := by
  refine ps_imp (L2N.ps_try_as (b₀ := .Assign [.Name y q2] (.Attribute (.Name n q1) f q3) q4) (suite := []) (tb := fun W' => tS T X.K W' nb) hs hf hN hi hln hc tk hb
    (ts := fun a cls d D σ H => ∃ C, cls = .ref C ∧ XfC X.K C ∧ PySem.W.findIn X.K (.ref C) f = some none ∧ tSeq (tAsg (tXf a cls d C f (tVar i)) (gName j)) tNext D σ H) (fun a oe cls d pn hz hfl => ?_)) ?_
  · refine ⟨fun pins s σ H D I ⟨C, hcls, XF, hno, h⟩ => ?_⟩
    exact (pss_cons (ps_set (X := X.suite a ((a, oe) :: pn)) hN hj (.inl hjl) (pe_xf XF hno hz.zc hfl (pe_var hi (.inl hln) hdn hcn) hba) rfl (.inr hjl)) pss_nil).run pins s σ H D I h
  · rintro D σ H ⟨g, G, env, ts, fp, S, h⟩
    refine ⟨g, G, env, ts, fp, S, ?_⟩
    unfold sTryF at h
    cases q : nb env with
    | no => rw [q] at h; exact h.elim
    | ok fl e1 => rw [q] at h; cases fl <;> exact h
    | exc x1 e1 =>
      rw [q] at h
      intro σ1 cls d G1 H1 fp1 z S1 xr
      obtain ⟨C, hca, rfl, harg⟩ := id xr
      dsimp only at h
      cases qc : isC x1.cls with
      | none => rw [qc] at h; exact h.elim
      | some b =>
        rw [qc] at h
        refine ⟨b, hC _ _ _ hca qc, fun hb' a ha => ?_, fun hb' => ?_⟩
        · subst hb'
          dsimp only at h
          split at h
          · rename_i d0 hk ea
            simp only [Bool.and_eq_true, decide_eq_true_eq] at hk
            obtain ⟨⟨⟨⟨⟨k1, k2⟩, k3⟩, k4⟩, k5⟩, k6⟩ := hk
            obtain ⟨hfl, XF, hno⟩ := hF _ _ hca k1
            obtain ⟨dd, v, rfl, hd, dp⟩ := harg d0 ea
            have l2 : i < σ1.length := by rw [S1.len]; exact k2
            refine ⟨C, rfl, XF, hno, ⟨.ref a, by rw [List.getElem?_set_self l2], rfl, rfl, dd, _, v, rfl, hd, by rw [hfl]; simp [List.lookup], ?_⟩⟩
            have l3 : j < σ1.length := by rw [S1.len]; exact k3
            have hx : ∃ fp2, Stt X.K g G1 H1 ((e1.set i none).set j (some (.val d0))) (((σ1.set i (some (.ref a))).set j (some v)).set i none) ts fp2 := by
              refine S1.reV id (fun _ _ h => h) (by simp [S1.len]) (fun l o e => ?_) (fun ix o v' e => ?_) fun l x hl8 hx => by
                rw [List.getElem?_set_ne (by omega), List.getElem?_set_ne (by omega), List.getElem?_set_ne (by omega)]
                exact S1.kp l x hl8 hx
              · by_cases e1' : l = i
                · subst e1'
                  rw [List.getElem?_set_ne (Ne.symm k4), List.getElem?_set_self k2] at e; cases e
                · by_cases e2' : l = j
                  · subst e2'
                    exact ⟨v, by rw [List.getElem?_set_ne (Ne.symm e1'), List.getElem?_set_self (by rw [List.length_set]; exact l3)]⟩
                  · rw [List.getElem?_set_ne (Ne.symm e2'), List.getElem?_set_ne (Ne.symm e1')] at e
                    obtain ⟨w, hw⟩ := S1.has l o e
                    exact ⟨w, by rw [List.getElem?_set_ne (Ne.symm e1'), List.getElem?_set_ne (Ne.symm e2'), List.getElem?_set_ne (Ne.symm e1')]; exact hw⟩
              · cases ix with
                | t l => exact .inl e
                | s l =>
                  obtain ⟨a1, a2⟩ := att_of e
                  by_cases e1' : l = i
                  · subst e1'
                    rw [List.getElem?_set_ne (Ne.symm k4), List.getElem?_set_self k2] at a1; cases a1
                  · by_cases e2' : l = j
                    · subst e2'
                      rw [List.getElem?_set_self (by rw [List.length_set]; exact k3)] at a1
                      rw [List.getElem?_set_ne (Ne.symm e1'), List.getElem?_set_self (by rw [List.length_set]; exact l3)] at a2
                      cases a1; cases a2
                      exact .inr ⟨d0, rfl, dp⟩
                    · rw [List.getElem?_set_ne (Ne.symm e2'), List.getElem?_set_ne (Ne.symm e1')] at a1
                      rw [List.getElem?_set_ne (Ne.symm e1'), List.getElem?_set_ne (Ne.symm e2'), List.getElem?_set_ne (Ne.symm e1')] at a2
                      exact .inl (att_is a1 a2)
            obtain ⟨fp2, S2⟩ := hx
            exact h _ G1 H1 fp2 z S2
          · exact h.elim
        · subst hb'
          exact h σ1 _ d G1 H1 fp1 z S1 xr
end
end MP

set_option Elab.async false
set_option linter.all false
set_option maxRecDepth 100000
set_option maxHeartbeats 4000000
namespace MP
open PySem PySem.Spec PyProof.Rows L2

/-- where a place lies -/
def getA (H : Hp) : V → List Int → Option V
  | v, [] => some v
  | .ref a, i :: p => match H a with
    | some (.lst vs) => (atI vs i).bind fun v => getA H v p
    | some (.tup vs) => (atI vs i).bind fun v => getA H v p
    | _ => none
  | _, _ :: _ => none
section
variable {K : PySem.W.Frag} {G G1 H H' H1 : Hp} {g : Gh} {env env' : Env} {σ : L2.St} {ts : Tmp} {fp : Ix → List Addr}
theorem atI_bind {α β : Type} {l : List α} {k : Int} {f : α → Option β} {b : β} (h : (atI l k).bind f = some b) : ∃ j a, ixN l.length k = some j ∧ l[j]? = some a ∧ f a = some b := by
  unfold atI at h
  cases q : ixN l.length k with
  | none => rw [q] at h; cases h
  | some j =>
    rw [q] at h
    have h : (l[j]?).bind f = some b := h
    cases q2 : l[j]? with
    | none => rw [q2] at h; cases h
    | some a => rw [q2] at h; exact ⟨j, a, rfl, q2, h⟩
theorem atI_of {α β : Type} {l : List α} {k : Int} {f : α → Option β} {j : Nat} {a : α} {n : Nat} (hn : l.length = n) (h1 : ixN n k = some j) (h2 : l[j]? = some a) : (atI l k).bind f = f a := by
  unfold atI
  rw [hn, h1]
  show (l[j]?).bind f = _
  rw [h2]; rfl
theorem getA_of : ∀ (p : List Int) {o o' : O} {v : V} {F : List Addr}, RO K G H o v F → getP o p = some o' → ∃ v' F', getA H v p = some v' ∧ RO K G H o' v' F' ∧ ∀ a ∈ F', a ∈ F
  | [], o, o', v, F, r, h => by
    have : o = o' := by cases o <;> exact Option.some.inj h
    subst this
    exact ⟨v, F, by cases v <;> rfl, r, fun _ h => h⟩
  | i :: p, .val d, _, _, _, _, h => by cases h
  | i :: p, .lst os, o', v, F, r, h => by
    obtain ⟨a, vs, F', rfl, rfl, h1, h2⟩ := ro_lst r
    have h : (atI os i).bind (fun o => getP o p) = some o' := h
    obtain ⟨j, o1, e1, e2, e3⟩ := atI_bind h
    obtain ⟨w, F2, g1, g2, g3⟩ := ros_nth h2 e2
    obtain ⟨v', F3, k1, k2, k3⟩ := getA_of p g2 e3
    refine ⟨v', F3, ?_, k2, fun b hb => List.mem_cons_of_mem _ (g3 b (k3 b hb))⟩
    unfold getA
    rw [h1]
    show (atI vs i).bind (fun v => getA H v p) = _
    rw [atI_of (ros_len h2) e1 g1]; exact k1
  | i :: p, .tup os, o', v, F, r, h => by
    obtain ⟨a, vs, F', rfl, rfl, h1, h2⟩ := ro_tup r
    have h : (atI os i).bind (fun o => getP o p) = some o' := h
    obtain ⟨j, o1, e1, e2, e3⟩ := atI_bind h
    obtain ⟨w, F2, g1, g2, g3⟩ := ros_nth h2 e2
    obtain ⟨v', F3, k1, k2, k3⟩ := getA_of p g2 e3
    refine ⟨v', F3, ?_, k2, fun b hb => List.mem_cons_of_mem _ (g3 b (k3 b hb))⟩
    unfold getA
    rw [h1]
    show (atI vs i).bind (fun v => getA H v p) = _
    rw [atI_of (ros_len h2) e1 g1]; exact k1
theorem getA_snoc (k : Int) : ∀ (p : List Int) (v : V), getA H v (p ++ [k]) = (getA H v p).bind fun v1 => getA H v1 [k]
  | [], v => by cases v <;> rfl
  | i :: p, .ref a => by
    show (match H a with | some (.lst vs) => (atI vs i).bind fun v => getA H v (p ++ [k]) | some (.tup vs) => (atI vs i).bind fun v => getA H v (p ++ [k]) | _ => none) = (match H a with | some (.lst vs) => (atI vs i).bind fun v => getA H v p | some (.tup vs) => (atI vs i).bind fun v => getA H v p | _ => none).bind _
    cases H a with
    | none => rfl
    | some u =>
      cases u with
      | lst vs =>
        show (atI vs i).bind _ = ((atI vs i).bind _).bind _
        cases atI vs i with
        | none => rfl
        | some w => exact getA_snoc k p w
      | tup vs =>
        show (atI vs i).bind _ = ((atI vs i).bind _).bind _
        cases atI vs i with
        | none => rfl
        | some w => exact getA_snoc k p w
      | _ => rfl
  | i :: p, .non => rfl
  | i :: p, .bl _ => rfl
  | i :: p, .int _ => rfl
  | i :: p, .str _ => rfl
  | i :: p, .byt _ => rfl
  | i :: p, .flt _ => rfl
  | i :: p, .ty _ => rfl
/-- one item of many put otherwise -/
theorem ros_put : ∀ {os : List O} {vs : List V} {F : List Addr} {j : Nat} {o : O}, ROs K G H os vs F → F.Nodup → os[j]? = some o → ∃ v F1, vs[j]? = some v ∧ RO K G H o v F1 ∧ F1.Nodup ∧ (∀ b ∈ F1, b ∈ F) ∧
    ∀ (H2 : Hp) (o2 : O) (F2 : List Addr), RO K G H2 o2 v F2 → (∀ b ∈ F, b ∉ F1 → H2 b = H b) → F2.Nodup → (∀ b ∈ F2, b ∈ F1 ∨ b ∉ F) → ∃ F3, ROs K G H2 (os.set j o2) vs F3 ∧ F3.Nodup ∧ ∀ b ∈ F3, b ∈ F ∨ b ∈ F2
  | _, _, _, _, _, .nil, _, e => by simp at e
  | _, _, _, 0, _, .cons (F := A) (F' := B) h t, nd, e => by
    simp at e; subst e
    obtain ⟨n1, n2, n3⟩ := List.nodup_append.mp nd
    refine ⟨_, A, rfl, h, n1, fun b hb => List.mem_append_left _ hb, fun H2 o2 F2 r k nd2 dj => ⟨F2 ++ B, .cons r (ros_mono (Ex.refl G) _ _ _ (fun b hb => k b (List.mem_append_right _ hb) fun z => n3 b z b hb rfl) t), ?_, fun b hb => ?_⟩⟩
    · refine List.nodup_append.mpr ⟨nd2, n2, fun a ha b hb e => ?_⟩
      subst e
      rcases dj a ha with z | z
      · exact n3 a z a hb rfl
      · exact z (List.mem_append_right _ hb)
    · rcases List.mem_append.mp hb with z | z
      · exact .inr z
      · exact .inl (List.mem_append_right _ z)
  | _, _, _, j + 1, _, .cons (F := A) (F' := B) h t, nd, e => by
    obtain ⟨n1, n2, n3⟩ := List.nodup_append.mp nd
    obtain ⟨v, F1, h1, h2, h3, h4, h5⟩ := ros_put (j := j) t n2 (by simpa using e)
    refine ⟨v, F1, by simpa using h1, h2, h3, fun b hb => List.mem_append_right _ (h4 b hb), fun H2 o2 F2 r k nd2 dj => ?_⟩
    obtain ⟨F3, k1, k2, k3⟩ := h5 H2 o2 F2 r (fun b hb hn => k b (List.mem_append_right _ hb) hn) nd2 fun b hb => (dj b hb).imp id fun z y => z (List.mem_append_right _ y)
    refine ⟨A ++ F3, .cons (ro_mono (Ex.refl G) _ _ _ (fun b hb => k b (List.mem_append_left _ hb) fun z => n3 b hb b (h4 b z) rfl) h) k1, ?_, fun b hb => ?_⟩
    · refine List.nodup_append.mpr ⟨n1, k2, fun a ha b hb e => ?_⟩
      subst e
      rcases k3 a hb with z | z
      · exact n3 a ha a z rfl
      · rcases dj a z with y | y
        · exact n3 a ha a (h4 a y) rfl
        · exact y (List.mem_append_left _ ha)
    · rcases List.mem_append.mp hb with z | z
      · exact .inl (List.mem_append_left _ z)
      · rcases k3 b z with y | y
        · exact .inl (List.mem_append_right _ y)
        · exact .inr y
/-- an item more, at a place -/
theorem ro_app {x : O} {w : V} {Fx : List Addr} (rx : RO K G H x w Fx) (nx : Fx.Nodup) : ∀ (p : List Int) {o o2 : O} {v : V} {F : List Addr}, RO K G H o v F → F.Nodup → (∀ b ∈ Fx, b ∉ F) → setP (appO x) o p = some o2 →
    ∃ a vs, getA H v p = some (.ref a) ∧ a ∈ F ∧ H a = some (.lst vs) ∧ vs.length < sizeLine ∧ ∃ F2, RO K G (upd H a (.lst (vs ++ [w]))) o2 v F2 ∧ F2.Nodup ∧ ∀ b ∈ F2, b ∈ F ∨ b ∈ Fx
  | [], .val d, o2, v, F, r, nd, dj, h => by cases h
  | [], .tup os, o2, v, F, r, nd, dj, h => by cases h
  | [], .lst os, o2, v, F, r, nd, dj, h => by
    obtain ⟨a, vs, F', rfl, rfl, h1, h2⟩ := ro_lst r
    have h : (if decide (os.length < sizeLine) then some (O.lst (os ++ [x])) else none) = some o2 := h
    split at h
    · rename_i hz
      cases h
      obtain ⟨na, nd'⟩ := List.nodup_cons.mp nd
      have nax : a ∉ Fx := fun z => dj a z List.mem_cons_self
      refine ⟨a, vs, rfl, List.mem_cons_self, h1, by rw [ros_len h2]; exact of_decide_eq_true hz, a :: (F' ++ Fx), .lst upd_same (ros_app (ros_mono (Ex.refl G) _ _ _ (fun b hb => upd_ne fun z => na (by rw [← z]; exact hb)) h2) (ros_one (ro_mono (Ex.refl G) _ _ _ (fun b hb => upd_ne fun z => nax (by rw [← z]; exact hb)) rx))), ?_, fun b hb => ?_⟩
      · refine List.nodup_cons.mpr ⟨fun z => (List.mem_append.mp z).elim na nax, List.nodup_append.mpr ⟨nd', nx, fun b hb c hc e => ?_⟩⟩
        subst e; exact dj b hc (List.mem_cons_of_mem _ hb)
      · rcases List.mem_cons.mp hb with z | z
        · exact .inl (by rw [z]; exact List.mem_cons_self)
        · rcases List.mem_append.mp z with z | z
          · exact .inl (List.mem_cons_of_mem _ z)
          · exact .inr z
    · cases h
  | i :: p, .val d, o2, v, F, r, nd, dj, h => by cases h
  | i :: p, .lst os, o2, v, F, r, nd, dj, h => by
    obtain ⟨a, vs, F', rfl, rfl, h1, h2⟩ := ro_lst r
    obtain ⟨na, nd'⟩ := List.nodup_cons.mp nd
    have h : ((ixN os.length i).bind fun j => (os[j]?).bind fun o => (setP (appO x) o p).map fun o' => O.lst (os.set j o')) = some o2 := h
    cases q1 : ixN os.length i with
    | none => rw [q1] at h; cases h
    | some j =>
      rw [q1] at h
      have h : ((os[j]?).bind fun o => (setP (appO x) o p).map fun o' => O.lst (os.set j o')) = some o2 := h
      cases q2 : os[j]? with
      | none => rw [q2] at h; cases h
      | some o1 =>
        rw [q2] at h
        have h : ((setP (appO x) o1 p).map fun o' => O.lst (os.set j o')) = some o2 := h
        cases q3 : setP (appO x) o1 p with
        | none => rw [q3] at h; cases h
        | some o3 =>
          rw [q3] at h; cases h
          obtain ⟨w1, F1, g1, g2, g3, g4, g5⟩ := ros_put h2 nd' q2
          obtain ⟨b, us, k1, k2, k3, k4, F2, k5, k6, k7⟩ := ro_app rx nx p g2 g3 (fun c hc z => dj c hc (List.mem_cons_of_mem _ (g4 c z))) q3
          have hab : b ≠ a := fun z => na (by rw [← z]; exact g4 b k2)
          obtain ⟨F3, m1, m2, m3⟩ := g5 _ o3 F2 k5 (fun c hc hn => upd_ne fun z => hn (by rw [z]; exact k2)) k6 fun c hc => (k7 c hc).imp id fun z y => dj c z (List.mem_cons_of_mem _ y)
          refine ⟨b, us, ?_, List.mem_cons_of_mem _ (g4 b k2), k3, k4, a :: F3, .lst (by rw [upd_ne (Ne.symm hab)]; exact h1) m1, ?_, fun c hc => ?_⟩
          · unfold getA; rw [h1]
            show (atI vs i).bind (fun v => getA H v p) = _
            rw [atI_of (ros_len h2) q1 g1]; exact k1
          · refine List.nodup_cons.mpr ⟨fun z => ?_, m2⟩
            rcases m3 a z with y | y
            · exact na y
            · rcases k7 a y with u | u
              · exact na (g4 a u)
              · exact dj a u List.mem_cons_self
          · rcases List.mem_cons.mp hc with z | z
            · exact .inl (by rw [z]; exact List.mem_cons_self)
            · rcases m3 c z with y | y
              · exact .inl (List.mem_cons_of_mem _ y)
              · exact (k7 c y).imp (fun u => List.mem_cons_of_mem _ (g4 c u)) id
  | i :: p, .tup os, o2, v, F, r, nd, dj, h => by
    obtain ⟨a, vs, F', rfl, rfl, h1, h2⟩ := ro_tup r
    obtain ⟨na, nd'⟩ := List.nodup_cons.mp nd
    have h : ((ixN os.length i).bind fun j => (os[j]?).bind fun o => (setP (appO x) o p).map fun o' => O.tup (os.set j o')) = some o2 := h
    cases q1 : ixN os.length i with
    | none => rw [q1] at h; cases h
    | some j =>
      rw [q1] at h
      have h : ((os[j]?).bind fun o => (setP (appO x) o p).map fun o' => O.tup (os.set j o')) = some o2 := h
      cases q2 : os[j]? with
      | none => rw [q2] at h; cases h
      | some o1 =>
        rw [q2] at h
        have h : ((setP (appO x) o1 p).map fun o' => O.tup (os.set j o')) = some o2 := h
        cases q3 : setP (appO x) o1 p with
        | none => rw [q3] at h; cases h
        | some o3 =>
          rw [q3] at h; cases h
          obtain ⟨w1, F1, g1, g2, g3, g4, g5⟩ := ros_put h2 nd' q2
          obtain ⟨b, us, k1, k2, k3, k4, F2, k5, k6, k7⟩ := ro_app rx nx p g2 g3 (fun c hc z => dj c hc (List.mem_cons_of_mem _ (g4 c z))) q3
          have hab : b ≠ a := fun z => na (by rw [← z]; exact g4 b k2)
          obtain ⟨F3, m1, m2, m3⟩ := g5 _ o3 F2 k5 (fun c hc hn => upd_ne fun z => hn (by rw [z]; exact k2)) k6 fun c hc => (k7 c hc).imp id fun z y => dj c z (List.mem_cons_of_mem _ y)
          refine ⟨b, us, ?_, List.mem_cons_of_mem _ (g4 b k2), k3, k4, a :: F3, .tup (by rw [upd_ne (Ne.symm hab)]; exact h1) m1, ?_, fun c hc => ?_⟩
          · unfold getA; rw [h1]
            show (atI vs i).bind (fun v => getA H v p) = _
            rw [atI_of (ros_len h2) q1 g1]; exact k1
          · refine List.nodup_cons.mpr ⟨fun z => ?_, m2⟩
            rcases m3 a z with y | y
            · exact na y
            · rcases k7 a y with u | u
              · exact na (g4 a u)
              · exact dj a u List.mem_cons_self
          · rcases List.mem_cons.mp hc with z | z
            · exact .inl (by rw [z]; exact List.mem_cons_self)
            · rcases m3 c z with y | y
              · exact .inl (List.mem_cons_of_mem _ y)
              · exact (k7 c y).imp (fun u => List.mem_cons_of_mem _ (g4 c u)) id
/-- the same places while what lies there stays -/
theorem getA_same : ∀ (p : List Int) {o o' : O} {v : V} {F : List Addr}, RO K G H o v F → (∀ a ∈ F, H1 a = H a) → getP o p = some o' → getA H1 v p = getA H v p := fun p {o o' v F} r k h => by
  obtain ⟨v1, _, h1, _, _⟩ := getA_of p r h
  obtain ⟨v2, _, h2, _, _⟩ := getA_of p (ro_mono (Ex.refl G) o v F k r) h
  have key : ∀ (p : List Int) {o o' : O} {v : V} {F : List Addr}, RO K G H o v F → (∀ a ∈ F, H1 a = H a) → getP o p = some o' → getA H1 v p = getA H v p := by
    intro p
    induction p with
    | nil => intro o o' v F _ _ _; cases v <;> rfl
    | cons i p ih =>
      intro o o' v F r k h
      cases o with
      | val d => cases h
      | lst os =>
        obtain ⟨a, vs, F', rfl, rfl, e1, e2⟩ := ro_lst r
        have h : (atI os i).bind (fun o => getP o p) = some o' := h
        obtain ⟨j, o1, b1, b2, b3⟩ := atI_bind h
        obtain ⟨w, F2, g1, g2, g3⟩ := ros_nth e2 b2
        unfold getA
        rw [k a List.mem_cons_self, e1]
        show (atI vs i).bind (fun v => getA H1 v p) = (atI vs i).bind (fun v => getA H v p)
        rw [atI_of (ros_len e2) b1 g1, atI_of (ros_len e2) b1 g1]
        exact ih g2 (fun c hc => k c (List.mem_cons_of_mem _ (g3 c hc))) b3
      | tup os =>
        obtain ⟨a, vs, F', rfl, rfl, e1, e2⟩ := ro_tup r
        have h : (atI os i).bind (fun o => getP o p) = some o' := h
        obtain ⟨j, o1, b1, b2, b3⟩ := atI_bind h
        obtain ⟨w, F2, g1, g2, g3⟩ := ros_nth e2 b2
        unfold getA
        rw [k a List.mem_cons_self, e1]
        show (atI vs i).bind (fun v => getA H1 v p) = (atI vs i).bind (fun v => getA H v p)
        rw [atI_of (ros_len e2) b1 g1, atI_of (ros_len e2) b1 g1]
        exact ih g2 (fun c hc => k c (List.mem_cons_of_mem _ (g3 c hc))) b3
  exact key p r k h
/-- what a place owns is written, from another one that is given up -/
theorem Stt.put2 {σ' : L2.St} {ts' : Tmp} (S : Stt K g G H env σ ts fp) {ix kx : Ix} {o' : O} {v : V} {F' : List Addr} (hs : ∀ b, b ∉ fp ix → H' b = H b) (hne : ∀ b, H b ≠ none → H' b ≠ none) (r : RO K G H' o' v F') (nd : F'.Nodup) (sub : ∀ a ∈ F', a ∈ fp ix ∨ a ∈ fp kx)
    (hl : σ'.length = env'.length) (hh : ∀ (i : Nat) (o : O), env'[i]? = some (some o) → ∃ v : V, σ'[i]? = some (some v)) (hk : att env' σ' ts' kx = none) (hkx : kx ≠ ix) (h1 : ∀ o2 v2, att env' σ' ts' ix = some (o2, v2) → o2 = o' ∧ v2 = v) (h2 : ∀ jx o2 v2, jx ≠ ix → att env' σ' ts' jx = some (o2, v2) → att env σ ts jx = some (o2, v2)) (hk8 : ∀ j : Nat, j < 8 → σ'[j]? = σ[j]? := by exact fun _ _ => rfl) :
    Stt K g G H' env' σ' ts' (fun jx => if jx = ix then F' else if jx = kx then [] else fp jx) := by
  have up : ∀ jx a, a ∈ (if jx = ix then F' else if jx = kx then [] else fp jx) → (jx = ix ∧ (a ∈ fp ix ∨ a ∈ fp kx)) ∨ (jx ≠ ix ∧ jx ≠ kx ∧ a ∈ fp jx) := fun jx a h => by
    by_cases q : jx = ix
    · rw [if_pos q] at h; exact .inl ⟨q, sub a h⟩
    · rw [if_neg q] at h
      by_cases q2 : jx = kx
      · rw [if_pos q2] at h; cases h
      · rw [if_neg q2] at h; exact .inr ⟨q, q2, h⟩
  refine ⟨hl, hh, fun a u e => ?_, fun jx o2 v2 e => ?_, fun jx => ?_, fun jx lx a ha hb => ?_, fun jx a ha => ?_, fun b u h1 h2 => ?_, fun b h => hne b (S.dm b h), S.g0, S.go, fun j x h1 h2 => (hk8 j h1).trans (S.kp j x h1 h2)⟩
  · rw [hs a fun z => by rw [(S.ow ix a z).1] at e; cases e]; exact S.sub a u e
  · by_cases q : jx = ix
    · subst q; rw [if_pos rfl]
      obtain ⟨rfl, rfl⟩ := h1 o2 v2 e
      exact r
    · by_cases q2 : jx = kx
      · subst q2; rw [hk] at e; cases e
      · rw [if_neg q, if_neg q2]
        exact ro_mono (Ex.refl G) _ _ _ (fun a ha => hs a fun z => q (S.dj _ _ a ha z)) (S.rep jx o2 v2 (h2 jx o2 v2 q e))
  · by_cases q : jx = ix
    · rw [if_pos q]; exact nd
    · by_cases q2 : jx = kx
      · rw [if_neg q, if_pos q2]; exact List.nodup_nil
      · rw [if_neg q, if_neg q2]; exact S.nd jx
  · rcases up jx a ha with ⟨e1, z1⟩ | ⟨n1, m1, z1⟩ <;> rcases up lx a hb with ⟨e2, z2⟩ | ⟨n2, m2, z2⟩
    · rw [e1, e2]
    · rcases z1 with z1 | z1
      · exact absurd (S.dj _ _ a z2 z1) n2
      · exact absurd (S.dj _ _ a z2 z1) m2
    · rcases z2 with z2 | z2
      · exact absurd (S.dj _ _ a z1 z2) n1
      · exact absurd (S.dj _ _ a z1 z2) m1
    · exact S.dj _ _ a z1 z2
  · have : ∃ lx, a ∈ fp lx := by
      rcases up jx a ha with ⟨_, z | z⟩ | ⟨_, _, z⟩
      · exact ⟨_, z⟩
      · exact ⟨_, z⟩
      · exact ⟨_, z⟩
    obtain ⟨lx, z⟩ := this
    obtain ⟨k1, k2, k3⟩ := S.ow lx a z
    exact ⟨k1, hne a k2, k3⟩
  · rw [hs b fun z => by
      rcases (S.ow ix b z).2.2 with y | y
      · exact h2 y
      · rw [h1] at y; cases y]
    exact S.fr b u h1 h2
/-- the rest of the state, a slot put aside -/
theorem Stt.aside (S : Stt K g G H env σ ts fp) (i : Nat) : Stt K ⟨G, H, fun a => ∃ ix, ix ≠ .s i ∧ a ∈ fp ix, []⟩ G H (env.set i none) σ ts (fun ix => if ix = .s i then [] else fp ix) := by
  refine ⟨by rw [List.length_set]; exact S.len, has_set S fun z => absurd rfl z, S.sub, fun ix o v e => ?_, fun ix => ?_, fun ix jx a h1 h2 => ?_, fun ix a h => ?_, fun b u h _ => h, fun b h => h, Ex.refl G, fun a h => .inl h, fun j x _ h => by simp at h⟩
  · by_cases q : ix = .s i
    · subst q; obtain ⟨z, _⟩ := att_set_self e; cases z
    · rw [if_neg q]; rw [att_set_ne q] at e; exact S.rep ix o v e
  · by_cases q : ix = .s i
    · rw [if_pos q]; exact List.nodup_nil
    · rw [if_neg q]; exact S.nd ix
  · by_cases q : ix = .s i
    · rw [if_pos q] at h1; cases h1
    · by_cases q2 : jx = .s i
      · rw [if_pos q2] at h2; cases h2
      · rw [if_neg q] at h1; rw [if_neg q2] at h2; exact S.dj _ _ a h1 h2
  · by_cases q : ix = .s i
    · rw [if_pos q] at h; cases h
    · rw [if_neg q] at h
      obtain ⟨k1, k2, _⟩ := S.ow ix a h
      exact ⟨k1, k2, .inl ⟨ix, q, h⟩⟩
/-- the slot back again -/
theorem Stt.again {fp' : Ix → List Addr} {tsA : Tmp} {e' : Env} (S : Stt K g G H env σ ts fp) {i : Nat} {o : O} (hi : env[i]? = some (some o)) (S' : Stt K ⟨G, H, fun a => ∃ ix, ix ≠ .s i ∧ a ∈ fp ix, []⟩ G1 H1 e' σ tsA fp') :
    ∃ fpA, Stt K g G1 H1 (e'.set i (some o)) σ tsA fpA ∧ ∃ v, σ[i]? = some (some v) ∧ (∀ a ∈ fp (.s i), H1 a = H a) := by
  obtain ⟨v, hv, r⟩ := S.get hi
  have hlen : e'.length = env.length := S'.len.symm.trans S.len
  obtain ⟨fpA, SA⟩ := S.frame (envA := e'.set i (some o)) (σA := σ) (tsA := tsA) S' (fun ix => ix ≠ .s i) (fun a ⟨ix, h1, h2⟩ => ⟨ix, h1, h2⟩) (fun ix => if ix = .s i then .inr ix else .inl ix) (fun ix jx h => by
      by_cases q : ix = .s i
      · by_cases q2 : jx = .s i
        · rw [q, q2]
        · rw [if_pos q, if_neg q2] at h; cases h
      · by_cases q2 : jx = .s i
        · rw [if_neg q, if_pos q2] at h; cases h
        · rw [if_neg q, if_neg q2] at h; injection h)
    (by rw [List.length_set]; exact S'.len) (has_set S' fun _ => ⟨v, hv⟩) (fun ix o2 v2 e => by
      by_cases q : ix = .s i
      · subst q
        obtain ⟨z1, z2⟩ := att_set_self e
        cases z1
        exact .inr (.inl ⟨.s i, by rw [if_pos rfl], fun z => z rfl, att_is hi z2⟩)
      · rw [att_set_ne q] at e
        exact .inl ⟨ix, by rw [if_neg q], e⟩)
  refine ⟨fpA, SA, v, hv, fun a ha => ?_⟩
  obtain ⟨_, h2, _⟩ := S.ow _ a ha
  cases q : H a with
  | none => exact absurd q h2
  | some u => exact S'.fr a u q fun ⟨ix, n, h⟩ => n (S.dj _ _ a h ha)
end
end MP

set_option Elab.async false
set_option linter.all false
set_option maxRecDepth 100000
set_option maxHeartbeats 4000000
namespace MP
open PySem PySem.Spec PyProof.Rows L2

def sAppQ (i : Nat) (p : List Int) (m : M O) : M Fl := fun e => match e[i]? with
  | some (some o) => match getP o p with
    | some (.lst _) => match m (e.set i none) with
      | .ok x e' => match setP (appO x) o p with
        | some o' => .ok .nx (e'.set i (some o'))
        | none => .no
      | .exc x e' => .exc x (e'.set i (some o))
      | .no => .no
    | _ => .no
  | _ => .no
def sExtQ (i : Nat) (m : M O) : M Fl := fun e => match e[i]? with
  | some (some (.lst _)) => bnd m (fun x e' => match x, e'[i]? with
    | .lst ys, some (some (.lst os)) => if decide (os.length + ys.length ≤ sizeLine) then .ok .nx (e'.set i (some (.lst (os ++ ys)))) else .no
    | _, _ => .no) e
  | _ => .no
def mOwnTup (ms : List (M O)) : M O := bnd (mList ms) fun os => if lenOk os.length then pur (.tup os) else bad

def tPA (K : PySem.W.Frag) (i : Nat) (p : List Int) : TE := fun σ H Q => ∃ G o v F o' v', σ[i]? = some (some v) ∧ RO K G H o v F ∧ getP o p = some o' ∧ getA H v p = some v' ∧ Q v' H
section
variable {X : Cx} {T : Tab} {W : WX} {a b e : Expr} {pos : Pos} {m : M O} {i : Nat} {x : Str} {p : List Int}
theorem spa_name (hN : X.N[i]? = some x) (hv : Vis X.env.scope x) (hd : (x == ("__debug__" : Str)) = false) (hcd : (x == ("__classdict__" : Str)) = false) : PE X (.Name x pos) (tPA X.K i []) :=
  pe_imp (pe_var hN hv hd hcd) fun σ H Q ⟨G, o, v, F, o', v', h1, h2, h3, h4, q⟩ => by
    have : v = v' := by cases v <;> exact Option.some.inj h4
    subst this
    exact ⟨v, h1, q⟩
theorem spa_ix {k : Int} (ha : PE X a (tPA X.K i p)) (hb : PE X b (tC (.int k))) (hs : PlainIx b) : PE X (.Subscript a b pos) (tPA X.K i (p ++ [k])) :=
  pe_imp (pe_ix ix_seq ha hb hs) fun σ H Q ⟨G, o, v, F, o', v', h1, h2, h3, h4, q⟩ => by
    rw [getP_snoc] at h3
    rw [getA_snoc] at h4
    cases q3 : getP o p with
    | none => rw [q3] at h3; cases h3
    | some o1 =>
      rw [q3] at h3
      obtain ⟨v1, F1, k1, k2, k3⟩ := getA_of p h2 q3
      rw [k1] at h4
      refine ⟨G, o, v, F, o1, v1, h1, h2, q3, k1, ?_⟩
      cases o1 with
      | val d => cases h3
      | lst os =>
        obtain ⟨ad, vs, F2, rfl, rfl, e1, e2⟩ := ro_lst k2
        have h4 : (match H ad with | some (.lst vs) => (atI vs k).bind fun v => getA H v [] | some (.tup vs) => (atI vs k).bind fun v => getA H v [] | _ => none) = some v' := h4
        rw [e1] at h4
        have h4 : (atI vs k).bind (fun v => getA H v []) = some v' := h4
        obtain ⟨j, w, b1, b2, b3⟩ := atI_bind h4
        have : w = v' := by cases w <;> exact Option.some.inj b3
        subst this
        exact .inl ⟨ad, vs, k, w, rfl, rfl, .inl (.inl e1), by unfold atI; rw [b1]; exact b2, q⟩
      | tup os =>
        obtain ⟨ad, vs, F2, rfl, rfl, e1, e2⟩ := ro_tup k2
        have h4 : (match H ad with | some (.lst vs) => (atI vs k).bind fun v => getA H v [] | some (.tup vs) => (atI vs k).bind fun v => getA H v [] | _ => none) = some v' := h4
        rw [e1] at h4
        have h4 : (atI vs k).bind (fun v => getA H v []) = some v' := h4
        obtain ⟨j, w, b1, b2, b3⟩ := atI_bind h4
        have : w = v' := by cases w <;> exact Option.some.inj b3
        subst this
        exact .inr (.inl ⟨ad, vs, k, w, rfl, rfl, .inl (.inl e1), by unfold atI; rw [b1]; exact b2, q⟩)
/-- the built-in method's call, its few conditions -/
structure MCall (X : Cx) (a b : Expr) (nm : Str) (apos cpos pos : Pos) : Prop where
  base : attributeBase a nm X.env (eval a X.env) = eval a X.env
  few : ((backTo cpos (starEach [b] X.env)).all (fun x => !x.1) && (backToKw cpos (keywordEach [] X.env)).all (fun x => x.1.isSome) && decide (([b] : List Expr).length + ([] : List Keyword).length + (if ([] : List Keyword).isEmpty then 0 else 1) < 30)) = true
  line : (apos.endLine == cpos.line) = true
  star : starEach [b] X.env = (false, eval b X.env) :: starEach [] X.env
  sw : swapsWith (.Call (.Attribute a nm apos) [b] [] cpos) none pos.line X.env = pure false
theorem ss_app {apos cpos : Pos} (ho : PE X a (tPA X.K i p)) (hm : PE X b (tO T X.K W m)) (c : MCall X a b "append" apos cpos pos) : PS X (.Expr (.Call (.Attribute a "append" apos) [b] [] cpos) pos) (tS T X.K W (sAppQ i p m)) := by
  refine ps_imp (ps_expr (pe_bm PySem.F.plainAttrs_list PySem.F.slot_list_append PySem.F.type_list_append mt_append ho (pa_cons hm pa_nil c.star) c.base c.few c.line c.star rfl) c.sw) ?_
  rintro D σ H ⟨g, G, env, ts, fp, S, h⟩
  unfold sAppQ at h
  cases q1 : env[i]? with
  | none => rw [q1] at h; exact h.elim
  | some oo =>
    rw [q1] at h
    cases oo with
    | none => exact h.elim
    | some o =>
      dsimp only at h
      cases q2 : getP o p with
      | none => rw [q2] at h; exact h.elim
      | some op =>
        rw [q2] at h
        cases op with
        | val d => exact h.elim
        | tup os => exact h.elim
        | lst os =>
          dsimp only at h
          obtain ⟨v, hv, r⟩ := S.get q1
          obtain ⟨v', F', g1, g2, g3⟩ := getA_of p r q2
          obtain ⟨ad, vs, F2, rfl, rfl, e1, e2⟩ := ro_lst g2
          refine ⟨G, o, v, _, _, _, hv, r, q2, g1, .inl ⟨rfl, vs, .inl (.inl e1)⟩, _, G, env.set i none, ts, _, S.aside i, ?_⟩
          cases q3 : m (env.set i none) with
          | no => rw [q3] at h; exact h.elim
          | exc y e' =>
            rw [q3] at h
            intro cls d G' H' fp' xx S' xr
            obtain ⟨fpA, SA, _⟩ := S.again q1 S'
            exact h σ cls d G' H' fpA xx SA xr
          | ok y e' =>
            rw [q3] at h
            intro w G' H' fp' xx S'
            dsimp only at h
            cases q4 : setP (appO y) o p with
            | none => rw [q4] at h; exact h.elim
            | some o2 =>
              rw [q4] at h
              obtain ⟨fpA, SA, v2, hv2, same⟩ := S.again q1 S'
              rw [hv] at hv2; cases hv2
              have hlen : i < e'.length := by
                have l1 : e'.length = env.length := by
                  have := S'.len.symm.trans S.len
                  exact this
                rw [l1]; exact (List.getElem?_eq_some_iff.mp q1).1
              have rx := SA.rep (.t ts.length) y w (by rw [att_push, if_pos rfl])
              have ro := SA.rep (.s i) o v (att_is (by rw [List.getElem?_set_self hlen]) hv)
              obtain ⟨a2, vs2, k1, k2, k3, k4, F3, k5, k6, k7⟩ := ro_app rx (SA.nd _) p ro (SA.nd _) (fun c hc z => by
                have := SA.dj _ _ c hc z
                cases this) q4
              rw [getA_same p r same q2, g1] at k1
              cases k1
              refine ⟨ad, vs2, w, rfl, rfl, k3, k4, ?_⟩
              have S2 := SA.put2 (env' := e'.set i (some o2)) (σ' := σ) (ts' := ts) (ix := .s i) (kx := .t ts.length) (H' := upd H' ad (.lst (vs2 ++ [w]))) (fun c hc => upd_ne fun z => hc (by rw [z]; exact k2)) (fun c hc => by
                by_cases z : c = ad
                · rw [z, upd_same]; simp
                · rw [upd_ne z]; exact hc) k5 k6 k7 (by rw [List.length_set]; have := SA.len; rw [List.length_set] at this; exact this) (fun j o3 e3 => by
                  by_cases z : i = j
                  · subst z; exact ⟨v, hv⟩
                  · rw [List.getElem?_set_ne z] at e3
                    exact SA.has j o3 (by rw [List.getElem?_set_ne z]; exact e3)) (by show ts[ts.length]? = none; simp) (by intro z; cases z) (fun o3 v3 e3 => by
                  obtain ⟨z1, z2⟩ := att_set_self e3
                  cases z1; rw [hv] at z2; cases z2; exact ⟨rfl, rfl⟩) (fun jx o3 v3 hj e3 => by
                  rw [att_set_ne hj] at e3
                  rw [att_set_ne hj, att_push]
                  split
                  · rename_i z; subst z
                    have e3 : ts[ts.length]? = some (o3, v3) := e3
                    simp at e3
                  · exact e3)
              exact h σ G' _ _ xx S2
theorem ss_ext {apos cpos : Pos} (hN : X.N[i]? = some x) (hv : Vis X.env.scope x) (hd : (x == ("__debug__" : Str)) = false) (hcd : (x == ("__classdict__" : Str)) = false) {p1 : Pos} (hm : PE X b (tO T X.K W m)) (c : MCall X (.Name x p1) b "extend" apos cpos pos) :
    PS X (.Expr (.Call (.Attribute (.Name x p1) "extend" apos) [b] [] cpos) pos) (tS T X.K W (sExtQ i m)) := by
  refine ps_imp (ps_expr (pe_bm PySem.F.plainAttrs_list PySem.F.slot_list_extend PySem.F.type_list_extend mt_extend (pe_var hN hv hd hcd) (pa_cons hm pa_nil c.star) c.base c.few c.line c.star rfl) c.sw) ?_
  rintro D σ H ⟨g, G, env, ts, fp, S, h⟩
  unfold sExtQ at h
  cases q1 : env[i]? with
  | none => rw [q1] at h; exact h.elim
  | some oo =>
    rw [q1] at h
    cases oo with
    | none => exact h.elim
    | some o =>
      cases o with
      | val d => exact h.elim
      | tup os => exact h.elim
      | lst os0 =>
        dsimp only at h
        obtain ⟨v, hv, r⟩ := S.get q1
        obtain ⟨ad, vs, F2, rfl, hF, e1, e2⟩ := ro_lst r
        refine ⟨.ref ad, hv, .inl ⟨rfl, vs, .inl (.inl e1)⟩, g, G, env, ts, fp, S, h.bnd.mono fun y e' k w G1 H1 fp1 z S1 => ?_⟩
        try dsimp only at k
        split at k
        · rename_i ys os q2
          split at k
          · rename_i hz
            have ro := S1.rep (.s i) _ _ (att_is q2 hv)
            have ry := S1.rep (.t ts.length) _ w (by rw [att_push, if_pos rfl])
            obtain ⟨a1, vs1, F1, ea, eF1, b1, b2⟩ := ro_lst ro
            cases ea
            obtain ⟨a3, vs3, F3, rfl, eF3, c1, c2⟩ := ro_lst ry
            have n1 := S1.nd (.s i)
            have n3 := S1.nd (.t ts.length)
            rw [eF1] at n1
            rw [eF3] at n3
            obtain ⟨n1a, n1b⟩ := List.nodup_cons.mp n1
            obtain ⟨n3a, n3b⟩ := List.nodup_cons.mp n3
            have dj : ∀ c, c ∈ ad :: F1 → c ∈ a3 :: F3 → False := fun c h1 h2 => by
              rw [← eF1] at h1; rw [← eF3] at h2
              cases S1.dj _ _ c h1 h2
            refine ⟨ad, a3, vs1, vs3, rfl, rfl, b1, c1, by rw [ros_len b2, ros_len c2]; exact of_decide_eq_true hz, ?_⟩
            have S2 := S1.put2 (env' := e'.set i (some (.lst (os ++ ys)))) (σ' := σ) (ts' := ts) (ix := .s i) (kx := .t ts.length) (H' := upd H1 ad (.lst (vs1 ++ vs3))) (o' := .lst (os ++ ys)) (v := .ref ad) (F' := ad :: (F1 ++ F3)) (fun c hc => upd_ne fun z => hc (by rw [z, eF1]; exact List.mem_cons_self)) (fun c hc => by
                by_cases z : c = ad
                · rw [z, upd_same]; simp
                · rw [upd_ne z]; exact hc)
              (.lst upd_same (ros_app (ros_mono (Ex.refl G1) _ _ _ (fun c hc => upd_ne fun z => n1a (by rw [← z]; exact hc)) b2) (ros_mono (Ex.refl G1) _ _ _ (fun c hc => upd_ne fun z => dj c (by rw [z]; exact List.mem_cons_self) (List.mem_cons_of_mem _ hc)) c2)))
              (List.nodup_cons.mpr ⟨fun z => (List.mem_append.mp z).elim n1a fun z => dj ad List.mem_cons_self (List.mem_cons_of_mem _ z), List.nodup_append.mpr ⟨n1b, n3b, fun c hc c' hc' ec => by
                subst ec; exact dj c (List.mem_cons_of_mem _ hc) (List.mem_cons_of_mem _ hc')⟩⟩)
              (fun c hc => by
                rw [eF1, eF3]
                rcases List.mem_cons.mp hc with z | z
                · exact .inl (by rw [z]; exact List.mem_cons_self)
                · exact (List.mem_append.mp z).imp (List.mem_cons_of_mem _) (List.mem_cons_of_mem _))
              (by rw [List.length_set]; exact S1.len) (has_set S1 fun _ => ⟨_, hv⟩) (by show ts[ts.length]? = none; simp) (by intro z; cases z) (fun o3 v3 e3 => by
                  obtain ⟨z1, z2⟩ := att_set_self e3
                  cases z1; rw [hv] at z2; cases z2; exact ⟨rfl, rfl⟩) (fun jx o3 v3 hj e3 => by
                  rw [att_set_ne hj] at e3
                  rw [att_push]
                  split
                  · rename_i z; subst z
                    have e3 : ts[ts.length]? = some (o3, v3) := e3
                    simp at e3
                  · exact e3)
            exact k σ G1 _ _ z S2
          · exact k.elim
        · exact k.elim
end
section
variable {K : PySem.W.Frag} {G H : Hp}
theorem ros_setV {w : V} {d : D} (dp : Dp K G w d) : ∀ {os : List O} {vs : List V} {F : List Addr} (j : Nat), ROs K G H os vs F → F.Nodup → ∃ F2, ROs K G H (os.set j (.val d)) (vs.set j w) F2 ∧ F2.Nodup ∧ ∀ b ∈ F2, b ∈ F
  | _, _, _, _, .nil, nd => ⟨[], .nil, nd, fun _ h => h⟩
  | _, _, _, 0, .cons (F := A) (F' := B) h t, nd => ⟨[] ++ B, .cons (.val dp) t, (List.nodup_append.mp nd).2.1, fun b hb => List.mem_append_right _ hb⟩
  | _, _, _, j + 1, .cons (F := A) (F' := B) h t, nd => by
    obtain ⟨n1, n2, n3⟩ := List.nodup_append.mp nd
    obtain ⟨F2, k1, k2, k3⟩ := ros_setV dp j t n2
    refine ⟨A ++ F2, .cons h k1, List.nodup_append.mpr ⟨n1, k2, fun a ha b hb e => n3 a ha b (k3 b hb) e⟩, fun b hb => ?_⟩
    rcases List.mem_append.mp hb with z | z
    · exact List.mem_append_left _ z
    · exact List.mem_append_right _ (k3 b z)
end
section
variable {X : Cx} {T : Tab} {W : WX} {a b e : Expr} {pos : Pos} {m : M O} {md k : M D} {i : Nat} {x : Str} {p : List Int}
theorem ss_setIx {p1 tpos : Pos} (hN : X.N[i]? = some x) (hv : Vis X.env.scope x) (hd : (x == ("__debug__" : Str)) = false) (hcd : (x == ("__classdict__" : Str)) = false) (hk : PE X a (tD T X.K W k)) (he : PE X e (tO T X.K W m))
    (hs : swapsWithSole [.Subscript (.Name x p1) a tpos] e pos.line X.env = pure false) (hw : swappedStores [.Subscript (.Name x p1) a tpos] e X.env = pure none) (h1 : (assignEach [.Subscript (.Name x p1) a tpos] X.env).map (·.2) = [assign (.Subscript (.Name x p1) a tpos) X.env])
    (ha : ∀ v, assign (.Subscript (.Name x p1) a tpos) X.env v = (do
      let ov ← holding [v] (eval (.Name x p1) X.env)
      let iv ← holding [v, ov] (eval a X.env)
      standAt tpos
      holding [v, ov, iv] (setItem ov iv v)
      release [v, ov, iv] [])) : PS X (.Assign [.Subscript (.Name x p1) a tpos] e pos) (tS T X.K W (sSetIx i k (fz m))) := by
  refine ps_imp (ps_asg (se_fz he) (pg_sub (pe_var hN hv hd hcd) hk set_list ha) hs hw h1) ?_
  rintro D σ H ⟨g, G, env, ts, fp, S, h⟩
  refine ⟨g, G, env, ts, fp, S, h.bnd.mono fun d e1 kk v G1 H1 fp1 z S1 dp => ?_⟩
  try dsimp only at kk
  split at kk
  · rename_i o1 q1
    obtain ⟨vv, hvv, r⟩ := S1.get q1
    refine ⟨vv, hvv, g, G1, e1, ts, fp1, S1, (AftS.bnd (AftS.up kk z)).mono fun y e2 k2 yv G2 H2 fp2 z2 S2 dp2 => ?_⟩
    try dsimp only at k2
    split at k2
    · rename_i kI os q2
      cases dp2
      split at k2
      · rename_i j hj
        have ro := S2.rep (.s i) _ _ (att_is q2 hvv)
        obtain ⟨a1, vs1, F1, rfl, eF1, b1, b2⟩ := ro_lst ro
        have n1 := S2.nd (.s i)
        rw [eF1] at n1
        obtain ⟨n1a, n1b⟩ := List.nodup_cons.mp n1
        obtain ⟨F2, c1, c2, c3⟩ := ros_setV (Dpm z2 dp) j b2 n1b
        refine ⟨a1, vs1, kI, j, rfl, rfl, b1, by rw [ros_len b2]; exact hj, ?_⟩
        have S3 := S2.put (env' := e2.set i (some (.lst (os.set j (.val d))))) (σ' := σ) (ts' := ts) (ix := .s i) (H' := upd H2 a1 (.lst (vs1.set j v))) (o' := .lst (os.set j (.val d))) (v := .ref a1) (F' := a1 :: F2) (fun c hc => upd_ne fun z => hc (by rw [z, eF1]; exact List.mem_cons_self)) (fun c hc => by
            by_cases z : c = a1
            · rw [z, upd_same]; simp
            · rw [upd_ne z]; exact hc)
          (.lst upd_same (ros_mono (Ex.refl G2) _ _ _ (fun c hc => upd_ne fun z => n1a (by rw [← z]; exact c3 c hc)) c1)) (List.nodup_cons.mpr ⟨fun z => n1a (c3 _ z), c2⟩)
          (fun c hc => by
            rw [eF1]
            rcases List.mem_cons.mp hc with z | z
            · rw [z]; exact List.mem_cons_self
            · exact List.mem_cons_of_mem _ (c3 c z))
          (by rw [List.length_set]; exact S2.len) (has_set S2 fun _ => ⟨_, hvv⟩) (fun o3 v3 e3 => by
            obtain ⟨z1, z2⟩ := att_set_self e3
            cases z1; rw [hvv] at z2; cases z2; exact ⟨rfl, rfl⟩) (fun jx o3 v3 hj e3 => by rw [att_set_ne hj] at e3; exact e3)
        exact k2 σ G2 _ _ z2 S3
      · exact k2.elim
    · exact k2.elim
  · exact kk.elim
end
end MP

set_option Elab.async false
set_option linter.all false
set_option maxRecDepth 100000
set_option maxHeartbeats 4000000
namespace MP
open PySem PySem.Spec PyProof.Rows L2
section
variable {K : PySem.W.Frag} {G H : Hp} {g : Gh} {env : Env} {σ : L2.St} {ts : Tmp} {fp : Ix → List Addr}
theorem bundle (nd : ∀ ix, (fp ix).Nodup) (dj : ∀ ix jx a, a ∈ fp ix → a ∈ fp jx → ix = jx) : ∀ (os : List O) (vs : List V) (n : Nat), vs.length = os.length → (∀ (k : Nat) (o : O) (v : V), (os.zip vs)[k]? = some (o, v) → RO K G H o v (fp (.t (n + k)))) →
    ∃ F, ROs K G H os vs F ∧ F.Nodup ∧ ∀ a ∈ F, ∃ j, n ≤ j ∧ a ∈ fp (.t j)
  | [], [], n, _, _ => ⟨[], .nil, List.nodup_nil, fun _ h => by cases h⟩
  | [], _ :: _, _, h, _ => by cases h
  | _ :: _, [], _, h, _ => by cases h
  | o :: os, v :: vs, n, hl, k => by
    obtain ⟨F, h1, h2, h3⟩ := bundle nd dj os vs (n + 1) (by simpa using hl) fun j o' v' e => by
      have := k (j + 1) o' v' (by simpa using e)
      have e2 : n + 1 + j = n + (j + 1) := by omega
      rw [e2]; exact this
    refine ⟨fp (.t n) ++ F, .cons (k 0 o v rfl) h1, List.nodup_append.mpr ⟨nd _, h2, fun a ha b hb e => ?_⟩, fun a ha => ?_⟩
    · subst e
      obtain ⟨j, hj, hm⟩ := h3 a hb
      have := dj _ _ a ha hm
      injection this with this
      omega
    · rcases List.mem_append.mp ha with z | z
      · exact ⟨n, Nat.le_refl _, z⟩
      · obtain ⟨j, hj, hm⟩ := h3 a z
        exact ⟨j, by omega, hm⟩
/-- dead temporaries own nothing -/
def trimF (n : Nat) (fp : Ix → List Addr) : Ix → List Addr
  | .s i => fp (.s i)
  | .t j => if j < n then fp (.t j) else []
theorem trim_mem {n : Nat} {fp : Ix → List Addr} {ix : Ix} {a : Addr} (h : a ∈ trimF n fp ix) : a ∈ fp ix ∧ ∀ j, ix = .t j → j < n := by
  cases ix with
  | s i => exact ⟨h, fun j z => by cases z⟩
  | t j =>
    have h : a ∈ (if j < n then fp (.t j) else []) := h
    split at h
    · rename_i q; exact ⟨h, fun l z => by cases z; exact q⟩
    · cases h
theorem Stt.trim {ts' : Tmp} (S : Stt K g G H env σ (ts ++ ts') fp) : Stt K g G H env σ ts (trimF ts.length fp) := by
  have S1 := S.drop
  refine ⟨S1.len, S1.has, S1.sub, fun ix o v e => ?_, fun ix => ?_, fun ix jx a h1 h2 => S.dj _ _ a (trim_mem h1).1 (trim_mem h2).1, fun ix a h => S.ow ix a (trim_mem h).1, S1.fr, S1.dm, S1.g0, S1.go, S1.kp⟩
  · have r := S1.rep ix o v e
    cases ix with
    | s i => exact r
    | t j =>
      have hj : j < ts.length := (List.getElem?_eq_some_iff.mp (show ts[j]? = some (o, v) from e)).1
      show RO K G H o v (if j < ts.length then fp (.t j) else [])
      rw [if_pos hj]; exact r
  · cases ix with
    | s i => exact S.nd _
    | t j =>
      show (if j < ts.length then fp (.t j) else []).Nodup
      split
      · exact S.nd _
      · exact List.nodup_nil
theorem Stt.tupd {os : List O} {vs : List V} (S : Stt K g G H env σ (ts ++ os.zip vs) fp) (hl : vs.length = os.length) {p : Addr} (hp : H p = none) : ∃ fp', Stt K g G (upd H p (.tup vs)) env σ (ts ++ [(.tup os, .ref p)]) fp' := by
  obtain ⟨F, h1, h2, h3⟩ := bundle (K := K) (G := G) (H := H) S.nd S.dj os vs ts.length hl fun k o v e => S.rep (.t (ts.length + k)) o v (by
    show (ts ++ os.zip vs)[ts.length + k]? = _
    rw [List.getElem?_append_right (by omega)]
    rw [show ts.length + k - ts.length = k by omega]; exact e)
  have live : ∀ a ∈ F, H a ≠ none := fun a ha => by
    obtain ⟨j, _, hm⟩ := h3 a ha
    exact (S.ow _ a hm).2.1
  have npF : p ∉ F := fun z => live p z hp
  have gr : Grow G H G (upd H p (.tup vs)) := Grow.own S.sub hp
  have S2 := S.trim.grow gr
  refine ⟨_, S2.push (F := p :: F) (.tup upd_same (ros_mono (Ex.refl G) _ _ _ (fun a ha => upd_ne fun z => npF (by rw [← z]; exact ha)) h1)) (List.nodup_cons.mpr ⟨npF, h2⟩) (fun ix a ha hm => ?_) fun a ha => ?_⟩
  · obtain ⟨m1, m2⟩ := trim_mem hm
    rcases List.mem_cons.mp ha with z | z
    · subst z; exact (S.ow ix a m1).2.1 hp
    · obtain ⟨j, hj, hm'⟩ := h3 a z
      have := m2 j (S.dj _ _ a m1 hm')
      omega
  · rcases List.mem_cons.mp ha with z | z
    · subst z
      refine ⟨S.sub.none hp, by rw [upd_same]; simp, .inr ?_⟩
      cases q : g.H0 a with
      | none => rfl
      | some u => exact absurd hp (S.dm a (by rw [q]; simp))
    · obtain ⟨j, _, hm'⟩ := h3 a z
      obtain ⟨k1, k2, k3⟩ := S.ow _ a hm'
      exact ⟨k1, by rw [upd_ne fun y => npF (by rw [← y]; exact z)]; exact k2, k3⟩
end
def tOs (T : Tab) (K : PySem.W.Frag) (W : WX) (m : M (List O)) : TA := fun σ H Q => ∃ g G env ts fp, Stt K g G H env σ ts fp ∧ Aft T K W g ts σ G (fun os e G1 => ∀ vs G' H' fp', Ex G1 G' → vs.length = os.length → Stt K g G' H' e σ (ts ++ os.zip vs) fp' → Q vs H') (m env)
section
variable {X : Cx} {T : Tab} {W : WX} {e : Expr} {es : List Expr} {pos : Pos} {m : M O} {ms : List (M O)} {x1 : Nat}
theorem sos_nil : PA X [] (tOs T X.K W (mList [])) := pa_imp pa_nil fun σ H Q ⟨g, G, env, ts, fp, S, h⟩ => h [] G H fp (Ex.refl G) rfl (by rw [show ([] : List O).zip ([] : List V) = [] from rfl, List.append_nil]; exact S)
theorem sos_cons (ha : PE X e (tO T X.K W m)) (hr : PA X es (tOs T X.K W (mList ms))) (hs : starEach (e :: es) X.env = (false, eval e X.env) :: starEach es X.env) : PA X (e :: es) (tOs T X.K W (mList (m :: ms))) := by
  refine pa_imp (pa_cons ha hr hs) ?_
  rintro σ H Q ⟨g, G, env, ts, fp, S, h⟩
  refine ⟨g, G, env, ts, fp, S, h.bnd.mono fun o e1 k v G1 H1 fp1 x S1 => ⟨g, G1, e1, ts ++ [(o, v)], fp1, S1, ?_⟩⟩
  have k := k.bnd
  cases q : mList ms e1 with
  | no => rw [q] at k; exact k.elim
  | exc y e2 => rw [q] at k; exact fun cls d G' H' fp' z S' xr => k cls d G' H' fp' (x.trans z) S'.drop xr
  | ok os e2 =>
    rw [q] at k
    intro vs G' H' fp' z hl S'
    exact k (v :: vs) G' H' fp' (x.trans z) (by simp [hl]) (by rw [List.append_assoc] at S'; exact S')
theorem so_tup (h : PA X es (tOs T X.K W (mList ms))) : PE X (.Tuple es x1 pos) (tO T X.K W (mOwnTup ms)) := by
  refine pe_imp (pe_tup h) ?_
  rintro σ H Q ⟨g, G, env, ts, fp, S, h⟩
  refine ⟨g, G, env, ts, fp, S, h.bnd.mono fun os e1 k vs G1 H1 fp1 x hl S1 => ?_⟩
  unfold lenOk at k
  by_cases hz : decide (os.length ≤ sizeLine) = true
  · rw [if_pos hz] at k
    refine ⟨by rw [hl]; exact of_decide_eq_true hz, fun p hp => ?_⟩
    obtain ⟨fp2, S2⟩ := S1.tupd hl hp
    exact k (.ref p) G1 _ fp2 x S2
  · rw [if_neg hz] at k; exact k.elim
end
end MP

set_option Elab.async false
set_option linter.all false
set_option maxRecDepth 100000
set_option maxHeartbeats 4000000
namespace MP
open PySem PySem.Spec PyProof.Rows L2

def tupI : D → Option (List Int)
  | .tuple ds => intsD ds
  | _ => none
def tupsI : List D → Option (List (List Int))
  | [] => some []
  | d :: ds => (tupI d).bind fun k => (tupsI ds).map (k :: ·)
def insK (k : List Int) : List (List Int) → List (List Int)
  | [] => [k]
  | x :: xs => if k = x then x :: xs else if HT.lexLt k x then k :: x :: xs else x :: insK k xs
def setK (ks : List (List Int)) : List (List Int) := ks.foldr insK []
def bdB : Int := 1099511627776
def okKeys (ks : List (List Int)) : Bool := decide (ks.length < 64) && match ks with
  | [] => true
  | k :: _ => ks.all fun q => decide (q.length = k.length) && q.all fun i => decide (0 ≤ i) && decide (i < bdB)
def tupD (k : List Int) : D := .tuple (k.map .int)
def sortSetR : D → Option Res
  | .list ds => (tupsI ds).bind fun ks => if okKeys ks then some (.new ((setK ks).map tupD)) else none
  | _ => none
def mSortSet (m : M D) : M O := bnd m fun d => resM (sortSetR d)

theorem lex_code {B : Int} : ∀ {a b : List Int}, a.length = b.length → TS.Bd B a → TS.Bd B b → (HT.lexLt a b = true ↔ TS.code B a < TS.code B b)
  | [], [], _, _, _ => by
    constructor
    · intro h; cases h
    · intro h; exact absurd h (Int.lt_irrefl _)
  | [], _ :: _, h, _, _ => by cases h
  | _ :: _, [], h, _, _ => by cases h
  | x :: a, y :: b, h, ha, hb => by
    have hl : a.length = b.length := by simpa using h
    have ih := lex_code hl ha.tail hb.tail
    rw [HT.lexLt_cons]
    by_cases q : x = y
    · subst q
      rw [if_pos rfl, TS.code_same hl]; exact ih
    · rw [if_neg q]
      constructor
      · intro z; exact TS.code_lt hl ha.tail hb.tail (of_decide_eq_true z)
      · intro z
        refine decide_eq_true ?_
        rcases Int.lt_or_le x y with w | w
        · exact w
        · exact absurd (TS.code_lt hl.symm hb.tail ha.tail (show y < x by omega)) (by omega)
theorem lex_tri : ∀ {a b : List Int}, a.length = b.length → a ≠ b → HT.lexLt a b = false → HT.lexLt b a = true
  | [], [], _, h, _ => absurd rfl h
  | [], _ :: _, h, _, _ => by cases h
  | _ :: _, [], h, _, _ => by cases h
  | x :: a, y :: b, h, hne, hlt => by
    rw [HT.lexLt_cons] at hlt ⊢
    by_cases q : x = y
    · subst q
      rw [if_pos rfl] at hlt ⊢
      exact lex_tri (by simpa using h) (fun z => hne (by rw [z])) hlt
    · rw [if_neg q] at hlt
      rw [if_neg (Ne.symm q)]
      have := of_decide_eq_false hlt
      exact decide_eq_true (by omega)
theorem insK_mem {k q : List Int} : ∀ {l : List (List Int)}, q ∈ insK k l ↔ q = k ∨ q ∈ l
  | [] => by unfold insK; simp
  | x :: xs => by
    unfold insK
    by_cases h : k = x
    · subst h; rw [if_pos rfl]; simp
    · rw [if_neg h]
      by_cases h2 : HT.lexLt k x = true
      · rw [if_pos h2]; simp
      · rw [if_neg h2, List.mem_cons, List.mem_cons, insK_mem]
        constructor
        · rintro (z | z | z)
          · exact .inr (.inl z)
          · exact .inl z
          · exact .inr (.inr z)
        · rintro (z | z | z)
          · exact .inr (.inl z)
          · exact .inl z
          · exact .inr (.inr z)
theorem setK_mem {q : List Int} : ∀ {ks : List (List Int)}, q ∈ setK ks ↔ q ∈ ks
  | [] => by unfold setK; simp
  | k :: ks => by
    show q ∈ insK k (setK ks) ↔ _
    rw [insK_mem, setK_mem, List.mem_cons]
theorem insK_sorted {d : Nat} {B : Int} {k : List Int} (hk : k.length = d ∧ TS.Bd B k) : ∀ {l : List (List Int)}, (∀ q ∈ l, q.length = d ∧ TS.Bd B q) → l.Pairwise (fun a b => TS.code B a < TS.code B b) → (insK k l).Pairwise (fun a b => TS.code B a < TS.code B b)
  | [], _, _ => by unfold insK; simp
  | x :: xs, hl, hp => by
    have hx := hl x List.mem_cons_self
    obtain ⟨p1, p2⟩ := List.pairwise_cons.mp hp
    unfold insK
    by_cases h : k = x
    · rw [if_pos h]; exact hp
    · rw [if_neg h]
      by_cases h2 : HT.lexLt k x = true
      · rw [if_pos h2]
        have c := (lex_code (hk.1.trans hx.1.symm) hk.2 hx.2).mp h2
        refine List.pairwise_cons.mpr ⟨fun q hq => ?_, hp⟩
        rcases List.mem_cons.mp hq with z | z
        · rw [z]; exact c
        · exact Int.lt_trans c (p1 q z)
      · rw [if_neg h2]
        have c := (lex_code (hx.1.trans hk.1.symm) hx.2 hk.2).mp (lex_tri (hk.1.trans hx.1.symm) h (by simpa using h2))
        refine List.pairwise_cons.mpr ⟨fun q hq => ?_, insK_sorted hk (fun q hq => hl q (List.mem_cons_of_mem _ hq)) p2⟩
        rcases insK_mem.mp hq with z | z
        · rw [z]; exact c
        · exact p1 q z
theorem setK_sorted {d : Nat} {B : Int} : ∀ {ks : List (List Int)}, (∀ q ∈ ks, q.length = d ∧ TS.Bd B q) → (setK ks).Pairwise (fun a b => TS.code B a < TS.code B b)
  | [], _ => List.Pairwise.nil
  | k :: ks, h => insK_sorted (h k List.mem_cons_self) (fun q hq => h q (List.mem_cons_of_mem _ (setK_mem.mp hq))) (setK_sorted fun q hq => h q (List.mem_cons_of_mem _ hq))
/-- two strictly rising lists of the same members are one -/
theorem rise_uniq {α : Type} {f : α → Int} : ∀ {l m : List α}, l.Pairwise (fun a b => f a < f b) → m.Pairwise (fun a b => f a < f b) → (∀ x, x ∈ l ↔ x ∈ m) → l = m
  | [], [], _, _, _ => rfl
  | [], y :: m, _, _, h => absurd ((h y).mpr List.mem_cons_self) (by simp)
  | x :: l, [], _, _, h => absurd ((h x).mp List.mem_cons_self) (by simp)
  | x :: l, y :: m, hl, hm, h => by
    obtain ⟨l1, l2⟩ := List.pairwise_cons.mp hl
    obtain ⟨m1, m2⟩ := List.pairwise_cons.mp hm
    have e : x = y := by
      rcases List.mem_cons.mp ((h x).mp List.mem_cons_self) with z | z
      · exact z
      · rcases List.mem_cons.mp ((h y).mpr List.mem_cons_self) with w | w
        · exact w.symm
        · have a := l1 y w
          have b := m1 x z
          omega
    subst e
    rw [rise_uniq l2 m2 fun q => ?_]
    constructor
    · intro z
      rcases List.mem_cons.mp ((h q).mp (List.mem_cons_of_mem _ z)) with w | w
      · subst w; exact absurd (l1 q z) (Int.lt_irrefl _)
      · exact w
    · intro z
      rcases List.mem_cons.mp ((h q).mpr (List.mem_cons_of_mem _ z)) with w | w
      · subst w; exact absurd (m1 q z) (Int.lt_irrefl _)
      · exact w
theorem rise_of {α : Type} {f : α → Int} : ∀ {l : List α}, l.Nodup → (∀ a ∈ l, ∀ b ∈ l, f a = f b → a = b) → l.Pairwise (fun a b => f a ≤ f b) → l.Pairwise (fun a b => f a < f b)
  | [], _, _, _ => List.Pairwise.nil
  | x :: l, nd, inj, h => by
    obtain ⟨n1, n2⟩ := List.nodup_cons.mp nd
    obtain ⟨p1, p2⟩ := List.pairwise_cons.mp h
    refine List.pairwise_cons.mpr ⟨fun b hb => ?_, rise_of n2 (fun a ha b hb => inj a (List.mem_cons_of_mem _ ha) b (List.mem_cons_of_mem _ hb)) p2⟩
    have := p1 b hb
    rcases Int.lt_or_le (f x) (f b) with w | w
    · exact w
    · have e := inj x List.mem_cons_self b (List.mem_cons_of_mem _ hb) (by omega)
      subst e; exact absurd hb n1
theorem code_inj {B : Int} : ∀ {a b : List Int}, a.length = b.length → TS.Bd B a → TS.Bd B b → TS.code B a = TS.code B b → a = b := fun {a b} hl ha hb h => by
  by_cases e : a = b
  · exact e
  · cases q : HT.lexLt a b with
    | true => have := (lex_code hl ha hb).mp q; omega
    | false => have := (lex_code hl.symm hb ha).mp (lex_tri hl e q); omega

section
variable {prog : Program} {w : World} {A : Around} {E : Value → Shared → Prop} {s : Shared}
/-- list.sort of no item, or of one -/
theorem sort_few {a : Addr} {vs : List Value} {n : Nat} {Q : Value → Shared → Prop} (ho : s.heap.get? a = some (seqObj "list" vs.toArray n)) (h1 : vs.length ≤ 1) (h : ∀ out : Array Value, out.toList = vs → Q .none { s with heap := sortedHeap s.heap a vs out }) :
    wpAny (model prog w) A (call (.builtin "list.sort") [.ref a]) Q E s := by
  refine wpAny_call_entry slot_list_sort ⟨_, ho, rfl⟩ entry_list_sort (SK.plain_sort (r := fun _ => 0) ho (by omega) (fun h2 => by omega) fun ps out e1 e2 _ => ⟨_, rfl, h out ?_⟩) (args_list_sort _)
  have q := (TS.out_rank (r := fun _ => 0) (out := out) e1 e2 (List.pairwise_of_forall fun _ _ => Int.le_refl 0)).1
  match vs, h1, q with
  | [], _, q => exact List.Perm.eq_nil q
  | [v], _, q => exact List.perm_singleton.mp q
/-- sorted of a set of no item, or of one -/
theorem sorted_set1 {a : Addr} {L : List (Addr × List Int)} {es : Array (Int × Value)} {ep : Nat} {t : SetTable} {Q : Value → Shared → Prop} (R : SetTR prog w s.heap a L es ep t) (hh : A.handled = none) (h1 : L.length ≤ 1)
    (hQ : ∀ s' p (c : Nat), (∀ b o, s.heap.get? b = some o → s'.heap.get? b = some o) → s'.gens = s.gens → s'.os = s.os → s.heap.objs.size ≤ p → s'.heap.get? p = some (seqObj "list" (L.map fun q => Value.ref q.1).toArray c) → Q (.ref p) s') :
    wpAny (model prog w) A (call (.builtin "sorted") [.ref a]) Q E s := by
  obtain ⟨o, ho, hex, hd⟩ := R.ob
  have hsz := R.size
  have hfew := R.few
  apply Calls.call_function_entry kind_sorted plain_sorted entry_sorted (args_sorted1 _)
  unfold Builtin.«sorted»
  refine wpAny_bind (m := checkCount "sorted" 1 1 _) (wpAny_pure (wpAny_bind (collect_set (A := A.in1) hh ⟨o, ho, hex.1, hd⟩ R.fits (by unfold scanBound; omega) R.tab.ris R.led ?_)))
  intro s1 vs kp hz g1 o1 pm
  have hes : es.toList.map (·.2) = L.map fun q => Value.ref q.1 := by
    rw [R.rows]
    unfold rowsOf
    rw [List.map_map] <;> rfl
  rw [hes] at pm
  have hv : vs = L.map fun q => Value.ref q.1 := by
    have hl := pm.length_eq
    rw [List.length_map] at hl
    match L, h1, pm with
    | [], _, pm => exact List.Perm.eq_nil pm
    | [q], _, pm => exact List.perm_singleton.mp pm
  have hvl : vs.length ≤ 1 := by rw [hv, List.length_map]; exact h1
  refine wpAny_bind (wpAny_newList ?_ (by rw [sizeLine_eq]; omega))
  have hoL : (s1.heap.push (seqObj "list" vs.toArray 0)).get? s1.heap.objs.size = some (seqObj "list" vs.toArray 0) := Heap.get?_push_size _ rfl
  refine wpAny_bind (wpAny_holding (sort_few (s := { s1 with heap := s1.heap.push (seqObj "list" vs.toArray 0) }) hoL hvl fun out e => ?_))
  obtain ⟨c, hc⟩ := sortedHeap_at (vs := vs) (out := out) hoL
  have eo : out = (L.map fun q => Value.ref q.1).toArray := by rw [← hv, ← e]
  rw [eo] at hc
  refine wpAny_pure ⟨_, rfl, hQ _ s1.heap.objs.size c (fun b u q => ?_) g1 o1 hz (by rw [eo]; exact hc)⟩
  have hlt := Heap.lt_size (kp b u q)
  show (sortedHeap (s1.heap.push (seqObj "list" vs.toArray 0)) s1.heap.objs.size vs out).get? b = some u
  rw [sortedHeap_old (Nat.ne_of_lt hlt) (by rw [size_push']; exact Nat.lt_succ_of_lt hlt)]
  exact Heap.get?_push_of_some _ (kp b u q)
end
/-- sorted of a set of tuples of whole numbers: fewer than two, or of d items in [0, B) -/
def rSortedU (K : PySem.W.Frag) (P : Program) (w : World) : List V → Hp → VK → Prop := fun vs H Q => ∃ (a : Addr) (L : List (Addr × List Int)), vs = [V.ref a] ∧ H a = some (SetTO P w a L) ∧ (∀ p ∈ L, SqT K H p.1 (p.2.map V.int)) ∧ (∀ p ∈ L, p.2 = []) ∧
  ∀ (p : Addr), L.length ≤ 1 → H p = none → Q (.ref p) (upd H p (.lst (L.map fun q => V.ref q.1)))
section
variable {X : Cx}
theorem cr_sortedU (hc : X.calm = true) : CallR X (.builtin "sorted") (rSortedU X.K X.prog X.w) := by
  intro pins s σ H vs us Q I r h
  obtain ⟨a, L, rfl, ha, hk, h0, q⟩ := h
  have R0 : SetT0 X.prog X.w s.heap a L := (I.hok a _ ha).1
  obtain ⟨es, ep, t, R⟩ := R0.full fun p hp => I.isT (hk p hp)
  have h1 : L.length ≤ 1 := by
    have nd := R.nd
    match L, h0, nd with
    | [], _, _ => exact Nat.zero_le _
    | [_], _, _ => exact Nat.le_refl _
    | x :: y :: r, h0, nd =>
      have e1 := h0 x List.mem_cons_self
      have e2 := h0 y (List.mem_cons_of_mem _ List.mem_cons_self)
      simp only [List.map_cons, e1, e2] at nd
      exact absurd List.mem_cons_self (List.nodup_cons.mp nd).1
  rw [Vals.ref1 r]
  refine sorted_set1 R (I.ok.hd hc) h1 fun s' p c k g o hp hg => ?_
  have hn : H p = none := I.hok.fresh hp
  have hlen : (L.map fun q => V.ref q.1).length ≤ sizeLine := by rw [List.length_map, sizeLine_eq]; omega
  have J : Inv X pins σ (upd H p (.lst (L.map fun q => V.ref q.1))) { s with heap := s'.heap, gens := s'.gens, drawn := s'.drawn, toks := s'.toks } :=
    I.call (ch := []) (Un.laid k hp hn) (I.hok.laid k hp ⟨hlen, _, c, vals_of_refs L, hg⟩) (by rw [g]; exact I.bare) (fun _ z => nomatch z)
  have e : s' = { s with heap := s'.heap, gens := s'.gens, drawn := s'.drawn, toks := s'.toks } := by
    cases s'
    cases s
    cases o
    rfl
  rw [e]
  exact ⟨.ref p, _, J, rfl, q p h1 hn⟩
theorem cr_sortedTU (hc : X.calm = true) : CallR X (.builtin "sorted") (fun vs H Q => rSortedT X.K X.prog X.w vs H Q ∨ rSortedU X.K X.prog X.w vs H Q) := by
  intro pins s σ H vs us Q I r h
  rcases h with h | h
  · exact cr_sortedT hc pins s σ H vs us Q I r h
  · exact cr_sortedU hc pins s σ H vs us Q I r h
end
theorem dps_keys {K : PySem.W.Frag} {G : Hp} : ∀ {ds : List D} {vs : List V} {ks : List (List Int)}, DpAll K G vs ds → tupsI ds = some ks → ∃ ps : List (Addr × List Int), vs = ps.map (fun p => V.ref p.1) ∧ ks = ps.map (·.2) ∧ ∀ p ∈ ps, SqT K G p.1 (p.2.map V.int) ∧ Dp K G (.ref p.1) (tupD p.2)
  | [], _, _, h, e => by cases h; cases e; exact ⟨[], rfl, rfl, fun _ h => by cases h⟩
  | d :: ds, _, ks, h, e => by
    cases h with
    | @cons v _ vs _ a t =>
      have e : (tupI d).bind (fun k => (tupsI ds).map (k :: ·)) = some ks := e
      cases q1 : tupI d with
      | none => rw [q1] at e; cases e
      | some k =>
        rw [q1] at e
        have e : (tupsI ds).map (k :: ·) = some ks := e
        cases q2 : tupsI ds with
        | none => rw [q2] at e; cases e
        | some ks2 =>
          rw [q2] at e; cases e
          obtain ⟨ps, h1, h2, h3⟩ := dps_keys t q2
          cases d with
          | tuple l =>
            cases a with
            | @tup b xs _ hq ha =>
              obtain ⟨e1, e2⟩ := ints_of q1 ha
              refine ⟨(b, k) :: ps, by rw [h1]; rfl, by rw [h2]; rfl, fun p hp => ?_⟩
              rcases List.mem_cons.mp hp with z | z
              · subst z
                refine ⟨by rw [← e1]; exact hq, ?_⟩
                show Dp K G (.ref b) (.tuple (k.map .int))
                rw [← e2]; exact .tup hq ha
              · exact h3 p z
          | _ => cases q1
theorem dps_of_rows {K : PySem.W.Frag} {G : Hp} : ∀ (L : List (Addr × List Int)), (∀ p ∈ L, Dp K G (.ref p.1) (tupD p.2)) → DpAll K G (L.map fun q => V.ref q.1) ((L.map (·.2)).map tupD)
  | [], _ => .nil
  | p :: L, h => .cons (h p List.mem_cons_self) (dps_of_rows L fun q hq => h q (List.mem_cons_of_mem _ hq))
theorem okKeys_iff {ks : List (List Int)} (h : okKeys ks = true) : ks.length < 64 ∧ ∃ d, ∀ q ∈ ks, q.length = d ∧ TS.Bd bdB q := by
  unfold okKeys at h
  rw [Bool.and_eq_true] at h
  refine ⟨of_decide_eq_true h.1, ?_⟩
  cases ks with
  | nil => exact ⟨0, fun q hq => by cases hq⟩
  | cons k ks =>
    refine ⟨k.length, fun q hq => ?_⟩
    have := List.all_eq_true.mp h.2 q hq
    rw [Bool.and_eq_true] at this
    refine ⟨of_decide_eq_true this.1, fun m hm => ?_⟩
    have := List.all_eq_true.mp this.2 m hm
    rw [Bool.and_eq_true] at this
    exact ⟨of_decide_eq_true this.1, of_decide_eq_true this.2⟩
section
variable {X : Cx} {T : Tab} {W : WX} {e : Expr} {md : M D} {p p2 pos pos2 : Pos}
theorem se_sortSet (hc : X.calm = true) (hu : X.A.units + 64 < cLine) (g1 : Gl X "sorted") (m1 : X.mg "sorted" = none) (g2 : Gl X "set") (m2 : X.mg "set" = none) (he : PE X e (tD T X.K W md)) (hs : starEach [e] X.env = [(false, eval e X.env)])
    (hs2 : starEach [.Call (.Name "set" p2) [e] [] pos2] X.env = [(false, eval (.Call (.Name "set" p2) [e] [] pos2) X.env)]) : PE X (.Call (.Name "sorted" p) [.Call (.Name "set" p2) [e] [] pos2] [] pos) (tO T X.K W (mSortSet md)) := by
  refine pe_imp (pe_callB (cr_sortedTU hc) g1 m1 PyProof.Rows.boot_sorted (pa_cons (pe_callTy (cr_setOfT hc hu) g2 m2 PyProof.Rows.boot_set (pa_cons he pa_nil hs) (by decide) (by decide) hs rfl) pa_nil hs2) (by decide) (by decide) hs2 rfl) ?_
  rintro σ H Q ⟨g, G, env, ts, fp, S, h⟩
  refine ⟨g, G, env, ts, fp, S, h.bnd.mono fun d e1 k v G1 H1 fp1 x S1 dp => ?_⟩
  obtain ⟨r, er, rr⟩ := rr_res S1 (k.up x fun _ _ => PO.up x)
  cases d with
  | list ds =>
    have er : (tupsI ds).bind (fun ks => if okKeys ks then some (Res.new ((setK ks).map tupD)) else none) = some r := er
    cases q : tupsI ds with
    | none => rw [q] at er; cases er
    | some ks =>
      rw [q] at er
      have er : (if okKeys ks then some (Res.new ((setK ks).map tupD)) else none) = some r := er
      split at er
      · rename_i hok
        cases er
        obtain ⟨h64, d, hd⟩ := okKeys_iff hok
        cases dp with
        | @lst l xs _ hq ha =>
          obtain ⟨ps, e1, e2, e3⟩ := dps_keys ha q
          subst e1
          have e2' : ks = ps.map (·.2) := e2
          have sub := S1.sub
          refine ⟨l, ps, rfl, sub.sql hq, fun p hp => sub.sqt (e3 p hp).1, by rw [e2', List.length_map] at h64; exact h64, fun a L ha0 hL1 hL2 => ?_⟩
          have gr1 : Grow G1 H1 G1 (upd H1 a (SetTO X.prog X.w a L)) := Grow.own sub ha0
          have keysL : ∀ p ∈ L, p.2.length = d ∧ TS.Bd bdB p.2 := fun p hp => hd p.2 (by rw [e2']; exact List.mem_map.mpr ⟨p, hL1 p hp, rfl⟩)
          have sq : ∀ p ∈ L, SqT X.K (upd H1 a (SetTO X.prog X.w a L)) p.1 (p.2.map V.int) := fun p hp => gr1.sub.sqt (e3 p (hL1 p hp)).1
          have fin : ∀ (L' : List (Addr × List Int)) (b : Addr), (∀ p ∈ L', p ∈ L) → L'.map (·.2) = setK ks → (upd H1 a (SetTO X.prog X.w a L)) b = none → Q (.ref b) (upd (upd H1 a (SetTO X.prog X.w a L)) b (.lst (L'.map fun q => V.ref q.1))) := fun L' b hsub hkeys hb => by
            have gr2 := gr1.trans (Grow.own (o := .lst (L'.map fun q => V.ref q.1)) gr1.sub hb)
            have hb1 : H1 b = none := gr1.hh.none hb
            refine rr b _ G1 _ gr2 hb1 (sub.none hb1) upd_same ?_
            rw [← hkeys]
            exact dps_of_rows L' fun p hp => (e3 p (hL1 p (hsub p hp))).2
          by_cases hd1 : 1 ≤ d
          · refine .inl ⟨a, L, d, bdB, rfl, upd_same, sq, hd1, keysL, fun L' b pm nd hl pw hb => ?_⟩
            refine fin L' b (fun p hp => pm.mem_iff.mp hp) ?_ hb
            refine rise_uniq (f := TS.code bdB) (rise_of nd (fun x hx y hy hxy => ?_) (List.pairwise_map.mpr pw)) (setK_sorted hd) fun q => ?_
            · obtain ⟨p, hp, rfl⟩ := List.mem_map.mp hx
              obtain ⟨p', hp', rfl⟩ := List.mem_map.mp hy
              have k1 := keysL p (pm.mem_iff.mp hp)
              have k2 := keysL p' (pm.mem_iff.mp hp')
              exact code_inj (k1.1.trans k2.1.symm) k1.2 k2.2 hxy
            · rw [setK_mem, e2']
              constructor
              · intro z
                obtain ⟨p, hp, rfl⟩ := List.mem_map.mp z
                exact List.mem_map.mpr ⟨p, hL1 p (pm.mem_iff.mp hp), rfl⟩
              · intro z
                obtain ⟨p, hp, rfl⟩ := List.mem_map.mp z
                obtain ⟨p', hp', e⟩ := List.mem_map.mp (hL2 p hp)
                exact List.mem_map.mpr ⟨p', pm.mem_iff.mpr hp', e⟩
          · have all0 : ∀ q ∈ ks, q = [] := fun q hq => List.eq_nil_of_length_eq_zero (by have := (hd q hq).1; omega)
            refine .inr ⟨a, L, rfl, upd_same, sq, fun p hp => all0 p.2 (by rw [e2']; exact List.mem_map.mpr ⟨p, hL1 p hp, rfl⟩), fun b hl hb => ?_⟩
            refine fin L b (fun p hp => hp) ?_ hb
            have mem : ∀ q, q ∈ L.map (·.2) ↔ q ∈ setK ks := fun q => by
              rw [setK_mem, e2']
              constructor
              · intro z
                obtain ⟨p, hp, rfl⟩ := List.mem_map.mp z
                exact List.mem_map.mpr ⟨p, hL1 p hp, rfl⟩
              · intro z
                obtain ⟨p, hp, rfl⟩ := List.mem_map.mp z
                exact hL2 p hp
            refine rise_uniq (f := TS.code bdB) ?_ (setK_sorted hd) mem
            match L, hl with
            | [], _ => exact List.Pairwise.nil
            | [_], _ => exact List.pairwise_singleton _ _
      · cases er
  | none => cases er
  | bool z => cases er
  | int z => cases er
  | str z => cases er
  | tuple z => cases er
  | dict z => cases er
end
end MP

set_option Elab.async false
set_option linter.all false
set_option maxRecDepth 100000
set_option maxHeartbeats 4000000
namespace MP
open PySem PySem.Spec PyProof.Rows L2

def reprOk (d : D) : Bool := d.showable && !d.hasDict && decide (d.depth ≤ 40) && decide (d.shown.length ≤ sizeLine)
def reprR : D → Option Res
  | .list ds => if reprOk (.list ds) then some (.val (.str (PyData.shown (.list ds)))) else none
  | .tuple ds => if reprOk (.tuple ds) then some (.val (.str (PyData.shown (.tuple ds)))) else none
  | _ => none
def mRepr (m : M D) : M O := bnd m fun d => resM (reprR d)
def rRepr (K : PySem.W.Frag) : List V → Hp → VK → Prop := fun vs H Q => ∃ G a d, vs = [V.ref a] ∧ Ex G H ∧ Dp K G (.ref a) d ∧ reprOk d = true ∧ Q (.str d.shown) H
section
variable {X : Cx} {T : Tab} {W : WX} {e : Expr} {md mz : M D} {p pos : Pos}
theorem cr_repr (hg : X.A.guards = some []) (hu : X.A.units + 64 < cLine) : CallR X (.builtin "repr") (rRepr X.K) := by
  intro pins s σ H vs us Q I r h
  obtain ⟨G, a, d, rfl, x, dp, ok, q⟩ := h
  rw [Vals.ref1 r]
  unfold reprOk at ok
  simp only [Bool.and_eq_true, Bool.not_eq_true', decide_eq_true_eq] at ok
  obtain ⟨⟨⟨k1, k2⟩, k3⟩, k4⟩ := ok
  obtain ⟨as, rd⟩ := Dp.reads I d (.ref a) (.ref a) (Dpm x dp) rfl
  refine repr_of_reads' rd k1 (fun z => by rw [k2] at z; cases z) hg (by omega) (fun _ _ z => z) (fun h' u tk hk => ?_) k4
  exact ⟨.str d.shown, H, I.kept (t' := tk) hk, ⟨u, rfl⟩, q⟩
theorem se_repr (hg : X.A.guards = some []) (hu : X.A.units + 64 < cLine) (g1 : Gl X "repr") (m1 : X.mg "repr" = none) (he : PE X e (tD T X.K W md)) (hs : starEach [e] X.env = [(false, eval e X.env)]) : PE X (.Call (.Name "repr" p) [e] [] pos) (tO T X.K W (mRepr md)) := by
  refine pe_imp (pe_callB (cr_repr hg hu) g1 m1 (by decide +kernel) (pa_cons he pa_nil hs) (by decide) (by decide) hs rfl) ?_
  rintro σ H Q ⟨g, G, env, ts, fp, S, h⟩
  refine ⟨g, G, env, ts, fp, S, h.bnd.mono fun d e1 k v G1 H1 fp1 x S1 dp => ?_⟩
  obtain ⟨r, er, rr⟩ := rr_res S1 (k.up x fun _ _ => PO.up x)
  have key : ∀ d', d = d' → (∃ a, v = V.ref a) → reprOk d' = true → r = .val (.str d'.shown) → rRepr X.K [v] H1 Q := fun d' ed ⟨a, ea⟩ hok er => by
    subst ed; subst ea; subst er
    exact ⟨G1, a, d, rfl, S1.sub, dp, hok, rr.same S1.sub (.str _)⟩
  cases d with
  | list ds =>
    have er : (if reprOk (.list ds) then some (Res.val (.str (PyData.shown (.list ds)))) else none) = some r := er
    split at er
    · rename_i hok; cases er
      exact key _ rfl (by cases dp; exact ⟨_, rfl⟩) hok rfl
    · cases er
  | tuple ds =>
    have er : (if reprOk (.tuple ds) then some (Res.val (.str (PyData.shown (.tuple ds)))) else none) = some r := er
    split at er
    · rename_i hok; cases er
      exact key _ rfl (by cases dp; exact ⟨_, rfl⟩) hok rfl
    · cases er
  | none => cases er
  | bool z => cases er
  | int z => cases er
  | str z => cases er
  | dict z => cases er

theorem se_glob {x : Str} {u : Value} {v : V} {d : D} (hg : Gl X x) (hm : X.mg x = some u) (r : RelV v u) (hd : ∀ G, Dp X.K G v d) (hdb : (x == ("__debug__" : Str)) = false) : PE X (.Name x pos) (tO T X.K W (mC d)) :=
  se_c (v := v) ⟨fun pins s σ H Q I h => ld_glob I hg hm ⟨v, H, I, r, h⟩ hdb⟩ hd

inductive EsTab : List DictEntry → List (Str × D) → Prop
  | nil : EsTab [] []
  | cons {e : DictEntry} {es : List DictEntry} {x : Str} {t : Tok} {z : Str} {t2 : Tok} {l : List (Str × D)} : e.key = .str x t → e.val = .str z t2 → EsTab es l → EsTab (e :: es) ((x, .str z) :: l)
theorem EsTab.get {es : List DictEntry} {l : List (Str × D)} (h : EsTab es l) (k : Str) : (l.lookup k = none ∧ PySem.W.getL k es = some none) ∨ ∃ z t, l.lookup k = some (.str z) ∧ PySem.W.getL k es = some (some (.str z t)) := by
  induction h with
  | nil => exact .inl ⟨rfl, rfl⟩
  | @cons e es x t z t2 l h1 h2 h3 ih =>
    have hk : e.key.isStr k = (k == x) := by
      rw [h1]
      show (x == k) = (k == x)
      exact Bool.beq_comm
    have hr : e.refKey = false := by unfold DictEntry.refKey; rw [h1]
    unfold PySem.W.getL at ih ⊢
    rw [List.find?_cons, hk, List.any_cons, hr, Bool.false_or, List.lookup_cons]
    cases q : k == x with
    | true => exact .inr ⟨z, t2, rfl, by show some (some e.val) = _; rw [h2]⟩
    | false => exact ih

/-- what K holds of such a table -/
structure KTab (K : PySem.W.Frag) (w : World) (a : Addr) (l : List (Str × D)) : Prop where
  ex : ∃ es n, K.lookup a = some ⟨.type "dict", none, .dict es n, #[]⟩ ∧ PySem.W.KeysLit w.params es.toList ∧ EsTab es.toList l
  lo : (a == sysModules) = false
def mKGet (l : List (Str × D)) (m n : M D) : M O := bnd m fun d => bnd n fun z => match d with
  | .str x => pur (.val ((l.lookup x).getD z))
  | _ => bad
def tKGet (l : List (Str × D)) (ty tx : TE) : TE := fun σ H Q => ty σ H fun y H1 => tx σ H1 fun z H2 => ∃ k, y = .str k ∧ (l.lookup k = none → Q z H2) ∧ ∀ s, l.lookup k = some (.str s) → Q (.str s) H2
theorem pe_kget {x : Str} {a : Addr} {l : List (Str × D)} {e f : Expr} {ty tx : TE} {apos cpos : Pos} (T : KTab X.K X.w a l) (hg : Gl X x) (hm : X.mg x = some (.ref a)) (hdb : (x == ("__debug__" : Str)) = false) (he : PE X e ty) (hf : PE X f tx) (m : M2 X (.Name x p) "get" apos e f cpos) :
    PE X (.Call (.Attribute (.Name x p) "get" apos) [e, f] [] cpos) (tKGet l ty tx) := by
  constructor
  intro pins s σ H Q I h
  obtain ⟨es, n, hl, hk, tab⟩ := T.ex
  refine wpAny_Call_method m.base m.few m.line PySem.F.plainAttrs_dict PySem.F.slot_dict_get PySem.F.type_dict_get (ld_glob I hg hm ?_ hdb)
  have hmp := PySem.W.mapOf_K (prog := X.prog) (w := X.w) I.kIn hl hk
  refine ⟨hmp.typeIs, fun b q => ?_, ?_⟩
  · cases q
    exact ⟨_, I.kIn a _ hl, rfl⟩
  rw [m.trees]
  refine Calls.callWith_builtin rfl (Calls.evalArgs_plain (Calls.spliced_cons (thn (he.run pins s σ H _ I h) ?_)))
  rintro iv s1 ⟨y, H1, I1, ry, q1⟩
  refine Calls.spliced_cons (thn (hf.run pins s1 σ H1 _ I1 q1) ?_)
  rintro fv s2 ⟨z, H2, I2, rz, k, ek, q2, q3⟩
  refine Calls.spliced_nil ?_
  subst ek
  obtain ⟨t, rfl⟩ := ry
  have hmp2 := PySem.W.mapOf_K (prog := X.prog) (w := X.w) I2.kIn hl hk
  have look : ∀ r, PySem.W.getL k es.toList = some r → findBy Value.isStrOf es k = r := fun r hr => PySem.W.find_K hl (x := k) (by
    unfold PySem.W.nsIn
    rw [hl]
    exact hr)
  refine call_meetsIn PySem.F.slot_dict_get hmp2.typeIs PySem.F.entry_dict_get (PySem.F.args_dict_get_3 _ _ _) (meets_dict_get_default (strKind X.prog X.w) a (strKind_is X.prog X.w k t) T.lo fv) ⟨_, hmp2, ?_⟩
  rcases tab.get k with ⟨h1, h2⟩ | ⟨zz, t2, h1, h2⟩
  · rw [look _ h2]
    exact ⟨z, H2, I2.tok _, rz, q2 h1⟩
  · rw [look _ h2]
    exact ⟨.str zz, H2, I2.tok _, ⟨t2, rfl⟩, q3 zz h1⟩
theorem se_kget {x : Str} {a : Addr} {l : List (Str × D)} {e f : Expr} {apos cpos : Pos} {mf : M D} (Tb : KTab X.K X.w a l) (hg : Gl X x) (hm : X.mg x = some (.ref a)) (hdb : (x == ("__debug__" : Str)) = false) (he : PE X e (tD T X.K W md)) (hf : PE X f (tD T X.K W mf)) (m : M2 X (.Name x p) "get" apos e f cpos) :
    PE X (.Call (.Attribute (.Name x p) "get" apos) [e, f] [] cpos) (tO T X.K W (mKGet l md mf)) := by
  refine pe_imp (pe_kget Tb hg hm hdb he hf m) ?_
  rintro σ H Q ⟨g, G, env, ts, fp, S, h⟩
  refine ⟨g, G, env, ts, fp, S, h.bnd.mono fun d e1 k v G1 H1 fp1 x1 S1 dp => ⟨g, G1, e1, ts, fp1, S1, (k.up x1 fun _ _ => PO.up x1).bnd.mono fun d2 e2 k2 v2 G2 H2 fp2 x2 S2 dp2 => ?_⟩⟩
  have k2 := k2.up x2 fun _ _ => PO.up x2
  cases d with
  | str z =>
    cases dp
    refine ⟨z, rfl, fun hn => ?_, fun s hs => ?_⟩
    · obtain ⟨fp3, S3⟩ := S2.pushVal dp2
      have k2 : PO X.K g ts σ Q (.val ((l.lookup z).getD d2)) e2 G2 := k2
      rw [hn] at k2
      exact k2 v2 G2 H2 fp3 (Ex.refl _) S3
    · obtain ⟨fp3, S3⟩ := S2.pushVal (d := .str s) (.str s)
      have k2 : PO X.K g ts σ Q (.val ((l.lookup z).getD d2)) e2 G2 := k2
      rw [hs] at k2
      exact k2 (.str s) G2 H2 fp3 (Ex.refl _) S3
  | none => exact k2.elim
  | bool z => exact k2.elim
  | int z => exact k2.elim
  | list z => exact k2.elim
  | tuple z => exact k2.elim
  | dict z => exact k2.elim
end

def allAlike (ds : List D) : Bool := ds.all fun d => ds.all fun d' => PySem.W.alike d d'
def sortable (ds : List D) : Bool := (ds.all fun d => match d with
  | .tuple (_ :: _) => true
  | _ => false) || ds.all fun d => match d with
  | .none => false
  | .tuple _ => false
  | _ => true
noncomputable def sortL (ds : List D) : List D := ds.mergeSort (PySem.W.dataLe false id)
noncomputable def sortR : D → Option Res
  | .list ds => if allAlike ds && sortable ds && (ds.all fun d => decide (d.depth ≤ 40)) then some (.new (sortL ds)) else none
  | _ => none
noncomputable def mSort (m : M D) : M O := bnd m fun d => resM (sortR d)
theorem allAlike_iff {ds : List D} (h : allAlike ds = true) : PySem.W.AllAlike ds := fun d hd d' hd' => List.all_eq_true.mp (List.all_eq_true.mp h d hd) d' hd'
theorem sortable_iff {ds : List D} (h : sortable ds = true) : PySem.W.Sortable ds := by
  unfold sortable at h
  rw [Bool.or_eq_true] at h
  rcases h with h | h
  · refine .inl fun d hd => ?_
    have := List.all_eq_true.mp h d hd
    split at this
    · exact ⟨_, _, rfl⟩
    · cases this
  · refine .inr fun d hd => ?_
    have := List.all_eq_true.mp h d hd
    split at this
    · cases this
    · cases this
    · rename_i h1 h2
      exact ⟨h1, h2⟩
theorem each_zip {K : PySem.W.Frag} {G : Hp} : ∀ {xs : List V} {us : List Value} {ds : List D}, Vals xs us → DpAll K G xs ds → PySem.W.EachIs (fun u (b : V × D) => RelV b.1 u ∧ Dp K G b.1 b.2) us (xs.zip ds)
  | _, _, _, .nil, .nil => .nil
  | _, _, _, .cons r t, .cons a b => .cons ⟨r, a⟩ (each_zip t b)
theorem zip_each {K : PySem.W.Frag} {G : Hp} : ∀ {us : List Value} {bs : List (V × D)}, PySem.W.EachIs (fun u (b : V × D) => RelV b.1 u ∧ Dp K G b.1 b.2) us bs → Vals (bs.map (·.1)) us ∧ DpAll K G (bs.map (·.1)) (bs.map (·.2))
  | _, _, .nil => ⟨.nil, .nil⟩
  | _, _, .cons h t => ⟨.cons h.1 (zip_each t).1, .cons h.2 (zip_each t).2⟩
def rSortG (K : PySem.W.Frag) : List V → Hp → VK → Prop := fun vs H Q => ∃ G a xs ds, vs = [V.ref a] ∧ Ex G H ∧ SqL K G a xs ∧ DpAll K G xs ds ∧ PySem.W.AllAlike ds ∧ PySem.W.Sortable ds ∧ (∀ d ∈ ds, d.depth ≤ 40) ∧
  ∀ ys p, DpAll K G ys (sortL ds) → H p = none → Q (.ref p) (upd H p (.lst ys))
section
variable {X : Cx} {T : Tab} {W : WX} {e : Expr} {md : M D} {p pos : Pos}
theorem cr_sortedG (hu : X.A.units + 64 < cLine) : CallR X (.builtin "sorted") (rSortG X.K) := by
  intro pins s σ H vs us Q I r h
  obtain ⟨G, a, xs, ds, rfl, x, hq, hd, hal, hso, hdp, q⟩ := h
  rw [Vals.ref1 r]
  obtain ⟨its, rv, pl, hz⟩ := I.list (x.sql hq)
  have lz : xs.length = ds.length := dps_len hd
  have em : (xs.zip ds).map (·.2) = ds := List.map_snd_zip (by omega)
  have e1 := each_zip rv hd
  have e2 : PySem.W.EachIs (fun v (b : V × D) => ∃ as, Reads s.heap v b.2 as) its (xs.zip ds) := e1.mono fun v b ⟨h1, h2⟩ => Dp.reads I b.2 b.1 v (Dpm x h2) h1
  refine PySem.W.sorted_data (enc := fun b : V × D => b.2) pl.isList e1 e2 (by rw [em]; exact hal) (by rw [em]; exact hso) (by rw [List.length_zip, ← lz, Nat.min_self]; exact hz) (fun b hb => ?_) fun out ho eo => ?_
  · have := hdp b.2 (List.of_mem_zip hb).2
    omega
  · obtain ⟨z1, z2⟩ := zip_each eo
    have es : ((xs.zip ds).mergeSort (PySem.W.dataLe false fun b : V × D => b.2)).map (·.2) = sortL ds := by
      have q1 := PySem.W.sort_maps (r := PySem.W.dataLe false fun b : V × D => b.2) (s := PySem.W.dataLe false id) (fun b : V × D => b.2) (l := xs.zip ds) fun a _ b _ => rfl
      rw [q1, em]; rfl
    rw [es] at z2
    obtain ⟨c, hc⟩ := sortedAll_at s.heap its (List.toArray out)
    have hn : H (s.heap.objs.size + 1) = none := I.hok.fresh (Nat.le_succ _)
    refine ⟨.ref (s.heap.objs.size + 1), _, I.laid (t' := s.toks) (o := .lst (((xs.zip ds).mergeSort (PySem.W.dataLe false fun b : V × D => b.2)).map (·.1))) (fun _ _ => sortedAll_old) (Nat.le_succ _) ⟨?_, out, c, z1, hc⟩, rfl, q _ _ z2 hn⟩
    rw [z1.length, ho, List.length_zip, ← lz, Nat.min_self]; exact hz
theorem se_sort (hu : X.A.units + 64 < cLine) (g1 : Gl X "sorted") (m1 : X.mg "sorted" = none) (he : PE X e (tD T X.K W md)) (hs : starEach [e] X.env = [(false, eval e X.env)]) : PE X (.Call (.Name "sorted" p) [e] [] pos) (tO T X.K W (mSort md)) := by
  refine pe_imp (pe_callB (cr_sortedG hu) g1 m1 PyProof.Rows.boot_sorted (pa_cons he pa_nil hs) (by decide) (by decide) hs rfl) ?_
  rintro σ H Q ⟨g, G, env, ts, fp, S, h⟩
  refine ⟨g, G, env, ts, fp, S, h.bnd.mono fun d e1 k v G1 H1 fp1 x S1 dp => ?_⟩
  obtain ⟨r, er, rr⟩ := rr_res S1 (k.up x fun _ _ => PO.up x)
  cases d with
  | list ds =>
    have er : (if allAlike ds && sortable ds && (ds.all fun d => decide (d.depth ≤ 40)) then some (Res.new (sortL ds)) else none) = some r := er
    split at er
    · rename_i hok
      cases er
      rw [Bool.and_eq_true, Bool.and_eq_true] at hok
      cases dp with
      | @lst l xs _ hq ha =>
        exact ⟨G1, l, xs, ds, rfl, S1.sub, hq, ha, allAlike_iff hok.1.1, sortable_iff hok.1.2, fun d hd => of_decide_eq_true (List.all_eq_true.mp hok.2 d hd), fun ys b hys hb => rr.lst S1.sub hys hb⟩
    · cases er
  | none => cases er
  | bool z => cases er
  | int z => cases er
  | str z => cases er
  | tuple z => cases er
  | dict z => cases er
end
end MP

set_option Elab.async false
set_option linter.all false
set_option maxRecDepth 100000
set_option maxHeartbeats 8000000
namespace MP
open PySem PySem.Spec PyProof.Rows L2 PySem.W

section
variable {X : Cx} {pos : Pos}
/-- the state behind the unpacking: the head, a new list of the rest -/
theorem star_items {pins : List (Addr × Obj)} {s : Shared} {σ : L2.St} {H : Hp} {a : Addr} {v0 : V} {vs : List V} {Q : List Value → Shared → Prop} (hc : X.calm = true) (I : Inv X pins σ H s) (hq : SqL X.K H a (v0 :: vs))
    (h : ∀ (u0 : Value) (D : Addr) (t : Shared), RelV v0 u0 → H D = none → Inv X pins σ (upd H D (.lst vs)) t → Q [u0, .ref D] t) : wpAny (model X.prog X.w) X.A (unpackItems (.ref a) 2 (some 1)) Q X.xe s := by
  obtain ⟨its, rv, pl, hz⟩ := I.list hq
  cases rv with
  | @cons _ u0 _ us r0 rs =>
    have hl : s.heap.IsList a (u0 :: us).toArray := by
      obtain ⟨o, m, e, c, d, q⟩ := pl
      exact ⟨o, e, c, m, q⟩
    have hu : vs.length = us.length := rs.length
    have hz2 : us.length + 1 ≤ sizeLine := by rw [← hu]; exact hz
    have hne : a ≠ s.heap.objs.size := by obtain ⟨o, ho, _⟩ := hl; exact Nat.ne_of_lt (Heap.lt_size ho)
    unfold unpackItems notIterableAtAll
    refine wpAny_bind (wpAny_bind (wpAny_specialOf hl.typeIs slot_list_iter.lookup (wpAny_pure ?_)))
    simp only [Bool.false_eq_true, if_false]
    refine wpAny_bind (wpAny_holding (wpAny_pyIter_list hl (wpAny_bind (wpAny_holding (kun_draw hne 1 0 _ _ ⟨_, Heap.get?_push_size _ rfl, rfl, rfl⟩ (hl.push _) (by simp) fun h1 it1 sm1 => ?_)))))
    have l1 : h1.IsList a (u0 :: us).toArray := (hl.push _).extBut sm1.extBut hne
    have it1' : h1.IsListIter s.heap.objs.size a 1 := it1
    obtain ⟨oi, hoi, _⟩ := id it1'
    obtain ⟨ol, hol, _⟩ := id l1
    have hf : ¬ ((((u0 :: us).toArray.toList.drop 0).take 1).length < 1) := by simp
    rw [if_neg hf]
    refine wpAny_bind (wpAny_holding (kun_collect (s := { s with heap := h1 }) (T := "list_iterator") (.inr (.inr (.inl rfl))) (Walks.list (A := X.A.in1) (I.ok.hd hc) s.heap.objs.size a hne (u0 :: us).toArray) (fun j t st => st.1.typeIs) (k := 1) (by simp) ⟨it1', l1⟩ (Heap.lt_size hoi) (Heap.lt_size hol) (fun h2 tk kp => ?_) (by simpa using hz2)))
    have hmid : ((u0 :: us).toArray.toList.drop 1) = us := rfl
    rw [hmid]
    show wpAny _ _ (if us.length < 0 then _ else newList (us.take (us.length - 0)) >>= fun d => pure ([u0] ++ [d] ++ us.drop (us.length - 0))) _ _ _
    rw [if_neg (by omega), Nat.sub_zero, List.take_length, List.drop_length]
    have old : ∀ b o, s.heap.get? b = some o → h2.get? b = some o := fun b o e => kp b o (Nat.ne_of_lt (Heap.lt_size e)) (sm1.extBut b o (Nat.ne_of_lt (Heap.lt_size e)) (Heap.get?_push_of_some _ e))
    have I1 : Inv X pins σ H { s with heap := h2, toks := tk } := I.kept (t' := tk) old
    refine wpAny_bind (wpAny_newList (wpAny_pure ?_) (by omega))
    refine h u0 h2.objs.size _ r0 (I1.hok.fresh (Nat.le_refl _)) (I1.laid (t' := tk) (fun b o e => Heap.get?_push_of_some _ e) (Nat.le_refl _) ?_)
    exact ⟨by omega, us, 0, rs, Heap.get?_push_size _ rfl⟩
theorem sg_star {i j : Nat} {x y : Str} {k : Nat} {px py ps : Pos} {is : List Nat} (hc : X.calm = true) (hN : X.N.Nodup) (n1 : Nm X i x) (n2 : Nm X j y) (hi : i ∈ is) (hj : j ∈ is) : PG X (.Tuple [.Name x px, .Starred (.Name y py) ps] k pos) (tG X.K is (tgF [] (.star i j))) := by
  refine ⟨fun pins s σ H v u Q I r ⟨g, G, env, ts, fp, d, e', S, dp, he, kk⟩ => ?_⟩
  cases d with
  | list ds =>
    cases ds with
    | nil => cases he
    | cons d0 ds =>
      cases dp with
      | lst hq ha =>
        cases ha with
        | @cons v0 _ vs1 _ a0 at_ =>
          have he : (setL [] i (.val d0) env).bind (setL [] j (.lst (vals ds))) = some e' := he
          cases q1 : setL [] i (.val d0) env with
          | none => rw [q1] at he; cases he
          | some e1 =>
            rw [q1] at he
            have he : setL [] j (.lst (vals ds)) e1 = some e' := he
            obtain ⟨l1, rfl⟩ := setL_some q1
            obtain ⟨l2, rfl⟩ := setL_some he
            cases r
            rw [PyProof.Rows.assign_Tuple]
            refine wpAny_bind (wpAny_standAt ?_)
            show wpAny _ _ (unpack _ [(false, assign (.Name x px) X.env), (true, assign (.Name y py) X.env)]) _ _ _
            unfold unpack
            refine wpAny_bind (wpAny_holding (star_items hc I (S.sub.sql hq) fun u0 D t r0 hD I1 => ?_))
            have hG : G D = none := S.sub.none hD
            obtain ⟨fp1, S1⟩ := S.pushNew (p := D) (ds := ds) (Grow.own S.sub hD) hD hG upd_same at_
            obtain ⟨fp2, S2⟩ := S1.storeV a0 l1 (setL_ge q1)
            have S2' := S2
            obtain ⟨fp3, S3⟩ := S2.store l2 (setL_ge he)
            refine (pgs_cons (pg_name hN n1.ix n1.loc n1.fn) (pgs_cons (pg_name (pos := py) hN n2.ix n2.loc n2.fn) pgs_nil)).run pins t σ _ [v0, .ref D] [u0, .ref D] Q I1 (.cons r0 (.cons rfl .nil)) ?_
            exact ⟨v0, _, rfl, _, _, rfl, rfl, kk _ G _ fp3 (Ex.refl G) ((Chg.set hi).trans (Chg.set hj)) S3⟩
  | _ => cases he
end
end MP

set_option Elab.async false
set_option linter.all false
set_option maxRecDepth 100000
set_option maxHeartbeats 4000000
namespace MP
open PySem PySem.Spec PyProof.Rows L2

inductive C where
  -- values
  | var (i : Nat) | cst (d : D) | bin (op : Operator) (a b : C) | neg (a : C) | ofB (t : C) | andV (a m : C) | orV (a m : C) | ifO (t a b : C) | ix (a b : C) | sub (i : Nat) (b : C) | sl (a lo hi : C)
  | tup (l : C) | lst (l : C) | own (l : C) | bi (f : Bi) (l : C) | split (a b : C) | join (a b : C) | fstr (l : C) | sset (a : C) | srt (a : C) | rep (a : C) | kget (t : List (Str × D)) (a b : C) | lenN (i : Nat)
  | lc (it : C) (ws : List Nat) (tg : Tg) (cond elt : C) | lcB (it : C) (ws ws1 : List Nat) (tg : Tg) (cond it1 : C) (tg1 : Tg) (cond1 elt : C) | call (f : Str) (n : Nat) (l : C) (df : List D) | fr (a : C)
  -- truths
  | cmp (op : CmpOp) (a b : C) | chain (op op' : CmpOp) (a b c : C) | and (t u : C) | or (t u : C) | not (t : C) | tru (a : C) | isB (a : C) | isi (a : C) (ty : String) | cmpP (op : CmpOp) (i : Nat) (p : List Int) | ifB (t a b : C) | yes
  -- what is walked
  | seq (a : C) | rng1 (a : C) | rng2 (a b : C) | rng3 (a b c : C) | enum (a : C) | zip (a b : C)
  -- arguments, parts
  | argN (i : Nat) | argV (a : C) | pN | pS (a : C) | fcon (z : Str) | ffmt (a : C)
  | nil | cons (a l : C)
  -- statements
  | seqS (a b : C) | skip | drop (a : C) | set (i : Nat) (m : C) | tgt (tg : Tg) (m : C) | tgtO (js : List Nat) (m : C) | par (i j : Nat) (m n : C) | app (i : Nat) (p : List Int) (m : C) | ext (i : Nat) (m : C) | setIx (i : Nat) (k m : C) | ret (m : C) | retN | raise (c : Str) (m : C)
  | ifS (t a b : C) | for (it : C) (tg : Tg) (body : C) | while (t body : C) | tryF (body : C) (sub : List (Str × Bool)) (ok : List Str) (i j : Nat) | brk | ct
  deriving Inhabited

/-- what a code means: as a value, a truth, .. -/
structure Mn where
  o : M O := bad
  b : M Bool := bad
  i : Itm := bad
  a : M Arg := bad
  p : M (Option Int) := bad
  d : M D := bad
  l : List (M D) := []
  lo : List (M O) := []
  la : List (M Arg) := []
  lf : List (M D) := []
  s : M Fl := bad
def mFr (m : M O) : M O := bnd m fun o => pur (.val o.frz)
def setAllO : List Nat → List O → Env → Option Env
  | [], [], e => some e
  | i :: is, o :: os, e => (setL [] i o e).bind (setAllO is os)
  | _, _, _ => none
def sTgtO (js : List Nat) (m : M O) : M Fl := bnd m fun o e => match o with
  | .tup os => match setAllO js os e with
    | some e' => .ok .nx e'
    | none => .no
  | _ => .no
def whileN : Nat := 1048576
noncomputable def mean (den : Den) : C → Mn
  | .var i => { o := mVar i }
  | .cst d => { o := mC d }
  | .bin op a b => { o := mBin op (fz (mean den a).o) (fz (mean den b).o) }
  | .neg a => { o := mNeg (fz (mean den a).o) }
  | .ofB t => { o := mB (mean den t).b }
  | .andV a m => { o := mAndV (mIsB (fz (mean den a).o)) (mean den m).o }
  | .orV a m => { o := mOrV (mIsB (fz (mean den a).o)) (mean den m).o }
  | .ifO t a b => { o := mIf (mean den t).b (mean den a).o (mean den b).o }
  | .ix a b => { o := mIx (fz (mean den a).o) (fz (mean den b).o) }
  | .sub i b => { o := mSub i (fz (mean den b).o) }
  | .sl a lo hi => { o := mSl (fz (mean den a).o) (mean den lo).p (mean den hi).p }
  | .tup l => { o := mTup (mean den l).l }
  | .lst l => { o := mLst (mean den l).l }
  | .own l => { o := mOwnTup (mean den l).lo }
  | .bi f l => { o := mBi f (mean den l).l }
  | .split a b => { o := mMt splitR (fz (mean den a).o) (fz (mean den b).o) }
  | .join a b => { o := mMt joinD (fz (mean den a).o) (fz (mean den b).o) }
  | .fstr l => { o := mJoin (mean den l).lf }
  | .sset a => { o := mSortSet (fz (mean den a).o) }
  | .srt a => { o := mSort (fz (mean den a).o) }
  | .rep a => { o := mRepr (fz (mean den a).o) }
  | .kget t a b => { o := mKGet t (fz (mean den a).o) (fz (mean den b).o) }
  | .lenN i => { o := mLenN i }
  | .lc it ws tg cond elt => { o := mLc (mean den it).i ws (tgF [] tg) (mean den cond).b (fz (mean den elt).o) }
  | .lcB it ws ws1 tg cond it1 tg1 cond1 elt => { o := mLcB (mean den it).i ws ws1 (tgF [] tg) (mean den cond).b (mean den it1).i (tgF [] tg1) (mean den cond1).b (fz (mean den elt).o) }
  | .call f n l df => { o := mCallD den f n (mean den l).la df }
  | .fr a => { o := mFr (mean den a).o }
  | .cmp op a b => { b := mCmp op (fz (mean den a).o) (fz (mean den b).o) }
  | .chain op op' a b c => { b := mChain op op' (fz (mean den a).o) (fz (mean den b).o) (fz (mean den c).o) }
  | .and t u => { b := mAnd (mean den t).b (mean den u).b }
  | .or t u => { b := mOr (mean den t).b (mean den u).b }
  | .not t => { b := mNot (mean den t).b }
  | .tru a => { b := mTru (fz (mean den a).o) }
  | .isB a => { b := mIsB (fz (mean den a).o) }
  | .isi a ty => { b := mIsi (fz (mean den a).o) ty }
  | .cmpP op i p => { b := mCmpP op i p (.list []) }
  | .ifB t a b => { b := mIf (mean den t).b (mean den a).b (mean den b).b }
  | .yes => { b := pur true }
  | .seq a => { i := mSeq (fz (mean den a).o) }
  | .rng1 a => { i := mRng1 (fz (mean den a).o) }
  | .rng2 a b => { i := mRng2 (fz (mean den a).o) (fz (mean den b).o) }
  | .rng3 a b c => { i := mRng3 (fz (mean den a).o) (fz (mean den b).o) (fz (mean den c).o) }
  | .enum a => { i := mEnum (fz (mean den a).o) }
  | .zip a b => { i := mZip (fz (mean den a).o) (fz (mean den b).o) }
  | .argN i => { a := mArg i }
  | .argV a => { a := aVal (mean den a).o }
  | .pN => { p := pur none }
  | .pS a => { p := mPart (fz (mean den a).o) }
  | .fcon z => { d := pur (.str z) }
  | .ffmt a => { d := mFmt (fz (mean den a).o) }
  | .nil => {}
  | .cons a l => { l := fz (mean den a).o :: (mean den l).l, lo := (mean den a).o :: (mean den l).lo, la := (mean den a).a :: (mean den l).la, lf := (mean den a).d :: (mean den l).lf }
  | .seqS a b => { s := sSeq (mean den a).s (mean den b).s }
  | .skip => { s := sSkip }
  | .drop a => { s := sDrop (fz (mean den a).o) }
  | .set i m => { s := sSet [] i (mean den m).o }
  | .tgt tg m => { s := sTgt (tgF [] tg) (fz (mean den m).o) }
  | .tgtO js m => { s := sTgtO js (mean den m).o }
  | .par i j m n => { s := sPar [] i j (mean den m).o (mean den n).o }
  | .app i p m => { s := sAppQ i p (mean den m).o }
  | .ext i m => { s := sExtQ i (mean den m).o }
  | .setIx i k m => { s := sSetIx i (fz (mean den k).o) (fz (mean den m).o) }
  | .ret m => { s := sRet (mean den m).o }
  | .retN => { s := sRetN }
  | .raise c m => { s := sRaise c (some (fz (mean den m).o)) }
  | .ifS t a b => { s := mIf (mean den t).b (mean den a).s (mean den b).s }
  | .for it tg body => { s := sFor (mean den it).i (tgF [] tg) (mean den body).s }
  | .while t body => { s := whileGo (mean den t).b (mean den body).s whileN }
  | .tryF body sub ok i j => { s := sTryF (mean den body).s (fun c => sub.lookup c) (fun c => ok.contains c) i j }
  | .brk => { s := sBrk }
  | .ct => { s := sCt }

structure CE where
  N : List Str
  sc : Scope
  st : List (Str × NameKind)
  fns : List (Str × Nat × List D)
  con : List (Str × D)
  tab : List (Str × List (Str × D))
  exs : List (Str × Str)
  subs : List (Str × List (Str × Bool))
def ixOf (x : Str) : List Str → Option Nat
  | [] => none
  | y :: ys => if x == y then some 0 else (ixOf x ys).map (· + 1)
def okNm (x : Str) : Bool := !(x == ("__debug__" : Str)) && !(x == ("__classdict__" : Str)) && !(x == ("__name__" : Str))
def visB (sc : Scope) (x : Str) : Bool := match sc.names.lookup x with
  | some .local => true
  | some .cell => true
  | some .free => true
  | _ => false
def globB (sc : Scope) (x : Str) : Bool := sc.names.lookup x == some .globalImplicit
def CE.var (E : CE) (x : Str) : Option Nat := if visB E.sc x && okNm x then ixOf x E.N else none
def CE.glob (E : CE) (x : Str) : Bool := globB E.sc x && okNm x
/-- where a name is stored -/
def CE.sto (E : CE) (x : Str) : Option Nat := match E.st.lookup x with
  | some .local => ixOf x E.N
  | some .cell => ixOf x E.N
  | _ => none
def notStar : Expr → Bool
  | .Starred _ _ => false
  | _ => true
def notSlice : Expr → Bool
  | .Slice .. => false
  | _ => true
/-- the base of a method's call -/
def baseOk : Expr → Bool
  | .Call .. => false
  | _ => true
def intOf : Expr → Option Int
  | .Constant (.int i) _ _ => some i
  | .UnaryOp .USub (.Constant (.int i) _ _) _ => some (-i)
  | _ => none
def CE.path (E : CE) : Nat → Expr → Option (Nat × List Int)
  | 0, _ => none
  | _ + 1, .Name x _ => (E.var x).map fun i => (i, [])
  | n + 1, .Subscript a k _ => (intOf k).bind fun k => (E.path n a).map fun r => (r.1, r.2 ++ [k])
  | _, _ => none
def CE.stos (E : CE) : List Expr → Option (List Nat)
  | [] => some []
  | .Name x _ :: r => (E.sto x).bind fun i => (E.stos r).map (i :: ·)
  | _ :: _ => none
def CE.tg (E : CE) : Expr → Option Tg
  | .Name x _ => (E.sto x).map .name
  | .Tuple [.Name x _, .Starred (.Name y _) _] _ _ => (E.sto x).bind fun i => (E.sto y).map fun j => .star i j
  | .Tuple es _ _ => (E.stos es).map .tup
  | _ => none
def tgIs : Tg → List Nat
  | .name i => [i]
  | .tup is => is
  | .star i j => [i, j]
def biOf (x : Str) : Option Bi := [Bi.len, .all, .any, .sum, .abs, .min, .max, .int, .str, .list, .tuple].find? fun b => biName b == x
def isEmptyL : Expr → Bool
  | .List [] _ => true
  | _ => false
/-- the own names of a block, with their slots -/
def ownN (N : List Str) : List (Str × NameKind) → List (Str × Nat)
  | [] => []
  | (x, k) :: r => if k == .local || k == .cell then match ixOf x N with
    | some i => (x, i) :: ownN N r
    | none => ownN N r
    else ownN N r
def blkB (N : List Str) (sc scope : Scope) : Bool :=
  decide (scope.kind = .function) && (scope.names.all fun y => scope.names.lookup y.1 == some y.2) && (scope.names.all fun y => !(y.2 == .free) || sc.names.lookup y.1 == some .cell || sc.names.lookup y.1 == some .free)
def lineOk (apos cpos : Pos) : Bool := apos.endLine == cpos.line
def isTupE : Expr → Bool
  | .Tuple .. => true
  | _ => false
end MP

set_option Elab.async false
set_option linter.all false
set_option maxRecDepth 100000
set_option maxHeartbeats 4000000
namespace MP
open PySem PySem.Spec PyProof.Rows L2

inductive QQ where
  | o (e : Expr) | b (e : Expr) | w (e : Expr) | i (tg : Expr) (e : Expr) | l (es : List Expr) | lo (es : List Expr) | la (es : List Expr) | lf (es : List Expr) | p (e : Option Expr)
def CE.blk (E : CE) (scope : Scope) : CE := { E with sc := relS scope E.sc, st := scope.names }
abbrev Rec := CE → QQ → Option C
def typOf (x : Str) : Option String := if x == ("int" : Str) then some "int" else if x == ("bool" : Str) then some "bool" else if x == ("str" : Str) then some "str" else if x == ("list" : Str) then some "list" else if x == ("tuple" : Str) then some "tuple" else if x == ("dict" : Str) then some "dict" else none
def cName (E : CE) (x : Str) : Option C := match E.var x with
  | some i => some (.var i)
  | none => if E.glob x then (E.con.lookup x).map .cst else none
def cCall1 (rec : Rec) (E : CE) (f : Str) (a : Expr) : Option C :=
  if f == ("sorted" : Str) then match a with
    | .Call (.Name g _) [b] [] _ => if g == ("set" : Str) && globB E.sc g then (if notStar b then (rec E (.o b)).map .sset else none) else (rec E (.o a)).map .srt
    | _ => if notStar a then (rec E (.o a)).map .srt else none
  else if f == ("repr" : Str) then (if notStar a then (rec E (.o a)).map .rep else none)
  else if f == ("len" : Str) then match a with
    | .Name x _ => match E.var x with
      | some i => some (.lenN i)
      | none => (rec E (.l [a])).map (.bi .len)
    | _ => if notStar a then (rec E (.l [a])).map (.bi .len) else none
  else match biOf f with
    | some b => if notStar a then (rec E (.l [a])).map (.bi b) else none
    | none => none
def cCall2 (rec : Rec) (E : CE) (f : Str) (a b : Expr) : Option C :=
  if f == ("isinstance" : Str) then match b with
    | .Name T _ => match typOf T with
      | some ty => if notStar a && E.glob T then (rec E (.o a)).map fun a => .ofB (.isi a ty) else none
      | none => none
    | _ => none
  else match biOf f with
    | some bb => if notStar a && notStar b then (rec E (.l [a, b])).map (.bi bb) else none
    | none => none
def cCall (rec : Rec) (E : CE) (f : Str) (args : List Expr) : Option C :=
  if E.glob f then match E.fns.lookup f with
    | some (n, df) => match args with
      | [] => some (.call f n .nil df)
      | e :: es => if (e :: es).all notStar then (rec E (.la (e :: es))).map fun l => .call f n l df else none
    | none => match args with
      | [a] => cCall1 rec E f a
      | [a, b] => cCall2 rec E f a b
      | _ => none
  else none
def ownI (N : List Str) (scope : Scope) : List Nat := (ownN N scope.names).map fun q => q.2
def cLc (rec : Rec) (E : CE) (elt tg iter : Expr) (ifs : List Expr) (scope : Scope) : Option C :=
  if blkB E.N E.sc scope then
    (rec E (.i tg iter)).bind fun it => ((E.blk scope).tg tg).bind fun t =>
      ((match ifs with
        | [] => some .yes
        | [c] => rec (E.blk scope) (.b c)
        | _ => none) : Option C).bind fun cond => (rec (E.blk scope) (.o elt)).bind fun el =>
      if ((tgIs t).all fun i => (ownI E.N scope).contains i) && (ownI E.N scope).all fun i => decide (8 ≤ i) then some (.lc it (ownI E.N scope) t cond el) else none
  else none
def cLcB (rec : Rec) (E : CE) (elt tg iter : Expr) (ifs : List Expr) (tg1 iter1 : Expr) (ifs1 : List Expr) (scope : Scope) : Option C :=
  if blkB E.N E.sc scope then
    (rec E (.i tg iter)).bind fun it => ((E.blk scope).tg tg).bind fun t =>
      ((match ifs with
        | [] => some .yes
        | [c] => rec (E.blk scope) (.b c)
        | _ => none) : Option C).bind fun cond =>
      (rec (E.blk scope) (.i tg1 iter1)).bind fun it1 => ((E.blk scope).tg tg1).bind fun t1 =>
      ((match ifs1 with
        | [] => some .yes
        | [c] => rec (E.blk scope) (.b c)
        | _ => none) : Option C).bind fun cond1 => (rec (E.blk scope) (.o elt)).bind fun el =>
      if (((tgIs t).all fun i => (ownI E.N scope).contains i) && (tgIs t1).all fun i => (ownI E.N scope).contains i) && (ownI E.N scope).all fun i => decide (8 ≤ i) then some (.lcB it (ownI E.N scope) (tgIs t1) t cond it1 t1 cond1 el) else none
  else none
def cO (rec : Rec) (E : CE) : Expr → Option C
  | .Name x _ => cName E x
  | .Constant (.none) _ _ => some (.cst .none)
  | .Constant (.bool b) _ _ => some (.cst (.bool b))
  | .Constant (.int i) _ _ => some (.cst (.int i))
  | .Constant (.str s) _ _ => some (.cst (.str s))
  | .BinOp a op b _ => (rec E (.o a)).bind fun a => (rec E (.o b)).map fun b => .bin op a b
  | .UnaryOp .USub a _ => (rec E (.o a)).map .neg
  | .UnaryOp .Not a _ => (rec E (.o a)).map fun a => .ofB (.not (.isB a))
  | .BoolOp _ [a] _ => rec E (.o a)
  | .BoolOp .And (a :: b :: rest) pos => (rec E (.o a)).bind fun a => (rec E (.o (.BoolOp .And (b :: rest) pos))).map fun m => .andV a m
  | .BoolOp .Or (a :: b :: rest) pos => (rec E (.o a)).bind fun a => (rec E (.o (.BoolOp .Or (b :: rest) pos))).map fun m => .orV a m
  | .Compare a [op] [.List [] _] _ => match E.path 20 a with
    | some (i, p) => some (.ofB (.cmpP op i p))
    | none => (rec E (.o a)).map fun a => .ofB (.cmp op a (.lst .nil))
  | .Compare a [op] [b] _ => if behindInMarks op b then none else (rec E (.o a)).bind fun a => (rec E (.o b)).map fun b => .ofB (.cmp op a b)
  | .Compare a [op, op'] [b, c] _ => if behindInMarks op' c then none else (rec E (.o a)).bind fun a => (rec E (.o b)).bind fun b => (rec E (.o c)).map fun c => .ofB (.chain op op' a b c)
  | .IfExp t a b _ => (rec E (.b t)).bind fun t => (rec E (.o a)).bind fun a => (rec E (.o b)).map fun b => .ifO t a b
  | .Subscript a (.Slice lo hi none _) _ => (rec E (.o a)).bind fun a => (rec E (.p lo)).bind fun lo => (rec E (.p hi)).map fun hi => .sl a lo hi
  | .Subscript (.Name x _) b _ => if notSlice b then match E.var x with
      | some i => (rec E (.o b)).map (.sub i)
      | none => (cName E x).bind fun a => (rec E (.o b)).map fun b => .ix a b
    else none
  | .Subscript a b _ => if notSlice b then (rec E (.o a)).bind fun a => (rec E (.o b)).map fun b => .ix a b else none
  | .Tuple es _ _ => if es.all notStar then (rec E (.l es)).map .tup else none
  | .List es _ => if es.all notStar then (rec E (.l es)).map .lst else none
  | .ListComp elt [⟨tg, iter, ifs, 0⟩] scope _ => cLc rec E elt tg iter ifs scope
  | .ListComp elt [⟨tg, iter, ifs, 0⟩, ⟨tg1, iter1, ifs1, 0⟩] scope _ => cLcB rec E elt tg iter ifs tg1 iter1 ifs1 scope
  | .Call (.Name f _) args [] _ => cCall rec E f args
  | .Call (.Attribute a m apos) [b] [] cpos => if lineOk apos cpos && baseOk a && notStar b then
      (if m == ("split" : Str) then (rec E (.o a)).bind fun a => (rec E (.o b)).map fun b => .split a b
      else if m == ("join" : Str) then (rec E (.o a)).bind fun a => (rec E (.o b)).map fun b => .join a b
      else none) else none
  | .Call (.Attribute (.Name x _) m apos) [b, c] [] cpos => if lineOk apos cpos && notStar b && notStar c && E.glob x && m == ("get" : Str) then
      match E.tab.lookup x with
      | some t => (rec E (.o b)).bind fun b => (rec E (.o c)).map fun c => .kget t b c
      | none => none
    else none
  | .JoinedStr (e1 :: e2 :: es) _ => (rec E (.lf (e1 :: e2 :: es))).map .fstr
  | _ => none
def truOk : Expr → Bool
  | .UnaryOp .Not _ _ => false
  | .BoolOp .. => false
  | .IfExp .. => false
  | .Compare .. => false
  | _ => true
def cB (rec : Rec) (E : CE) : Expr → Option C
  | .BoolOp op es pos => rec E (.w (.BoolOp op es pos))
  | .UnaryOp .Not a _ => (rec E (.b a)).map .not
  | .Compare a [op] [.List [] _] _ => match E.path 20 a with
    | some (i, p) => some (.cmpP op i p)
    | none => (rec E (.o a)).map fun a => .cmp op a (.lst .nil)
  | .Compare a [op] [b] _ => if behindInMarks op b then none else (rec E (.o a)).bind fun a => (rec E (.o b)).map fun b => .cmp op a b
  | .Compare a [op, op'] [b, c] _ => if behindInMarks op' c then none else (rec E (.o a)).bind fun a => (rec E (.o b)).bind fun b => (rec E (.o c)).map fun c => .chain op op' a b c
  | .IfExp t a b _ => (rec E (.b t)).bind fun t => (rec E (.b a)).bind fun a => (rec E (.b b)).map fun b => .ifB t a b
  | e => if truOk e then (rec E (.o e)).map .tru else none
def cW (rec : Rec) (E : CE) : Expr → Option C
  | .BoolOp _ [a] _ => rec E (.b a)
  | .BoolOp .And (a :: b :: rest) pos => (rec E (.b a)).bind fun a => (rec E (.w (.BoolOp .And (b :: rest) pos))).map fun m => .and a m
  | .BoolOp .Or (a :: b :: rest) pos => (rec E (.b a)).bind fun a => (rec E (.w (.BoolOp .Or (b :: rest) pos))).map fun m => .or a m
  | _ => none
def cI (rec : Rec) (E : CE) (tg : Expr) : Expr → Option C
  | .Call (.Name f p) [a] [] pos => if E.glob f && f == ("range" : Str) && notStar a then (rec E (.o a)).map .rng1
    else if E.glob f && f == ("enumerate" : Str) && notStar a && isTupE tg then (rec E (.o a)).map .enum
    else (rec E (.o (.Call (.Name f p) [a] [] pos))).map .seq
  | .Call (.Name f p) [a, b] [] pos => if E.glob f && f == ("range" : Str) && notStar a && notStar b then (rec E (.o a)).bind fun a => (rec E (.o b)).map fun b => .rng2 a b
    else if E.glob f && f == ("zip" : Str) && notStar a && notStar b && isTupE tg then (rec E (.o a)).bind fun a => (rec E (.o b)).map fun b => .zip a b
    else (rec E (.o (.Call (.Name f p) [a, b] [] pos))).map .seq
  | .Call (.Name f p) [a, b, c] [] pos => if E.glob f && f == ("range" : Str) && notStar a && notStar b && notStar c then (rec E (.o a)).bind fun a => (rec E (.o b)).bind fun b => (rec E (.o c)).map fun c => .rng3 a b c
    else (rec E (.o (.Call (.Name f p) [a, b, c] [] pos))).map .seq
  | .Set .. => none
  | e => (rec E (.o e)).map .seq
def cA (rec : Rec) (E : CE) : Expr → Option C
  | .Name x p => match E.var x with
    | some i => some (.argN i)
    | none => (rec E (.o (.Name x p))).map .argV
  | e => (rec E (.o e)).map .argV
def cQ (rec : Rec) (E : CE) : QQ → Option C
  | .o e => cO rec E e
  | .b e => cB rec E e
  | .w e => cW rec E e
  | .i tg e => cI rec E tg e
  | .l [] => some .nil
  | .l (e :: es) => if notStar e then (rec E (.o e)).bind fun a => (rec E (.l es)).map fun l => .cons a l else none
  | .lo [] => some .nil
  | .lo (e :: es) => if notStar e then (rec E (.o e)).bind fun a => (rec E (.lo es)).map fun l => .cons a l else none
  | .la [] => some .nil
  | .la (e :: es) => if notStar e then (cA rec E e).bind fun a => (rec E (.la es)).map fun l => .cons a l else none
  | .lf [] => some .nil
  | .lf (.Constant (.str z) _ _ :: es) => (rec E (.lf es)).map fun l => .cons (.fcon z) l
  | .lf (.FormattedValue a (-1) none _ :: es) => (rec E (.o a)).bind fun a => (rec E (.lf es)).map fun l => .cons (.ffmt a) l
  | .lf _ => none
  | .p none => some .pN
  | .p (some e) => (rec E (.o e)).map .pS
def cc : Nat → Rec
  | 0 => fun _ _ => none
  | n + 1 => cQ (cc n)
end MP

set_option Elab.async false
set_option linter.all false
set_option maxRecDepth 100000
set_option maxHeartbeats 8000000
namespace MP
open PySem PySem.Spec PyProof.Rows L2

def bltN : List Str := ["range", "enumerate", "zip", "len", "all", "any", "sum", "abs", "min", "max", "int", "str", "list", "tuple", "sorted", "set", "repr", "isinstance", "bool", "dict"]
structure GoodE (T : Tab) (den : Den) (W : WX) (E : CE) (k : Nat) (X : Cx) : Prop where
  hN : X.N = E.N
  nd : E.N.Nodup
  sc : X.env.scope = E.sc
  calm : X.calm = true
  room : Room k X.A
  grd : X.A.guards = some []
  sto : ∀ x kd, E.st.lookup x = some kd → (kd = .local → X.env.scope.names.lookup x = some .local) ∧ (kd = .cell → X.env.scope.names.lookup x = some .cell ∧ X.fn x = true)
  blt : ∀ x ∈ bltN, X.mg x = none
  fns : ∀ x n df, E.fns.lookup x = some (n, df) → ∃ f fd ps dvs ds, X.mg x = some (.ref f) ∧ PySem.W.keepIn X.K (.ref f) = true ∧ FnG X.prog X.w X.K X.mg X.base (L2N.CX X.prog X.w) k f fd ps (spF T X.K n (den x)) ∧ Binds X.K fd ps ds ∧ Vals dvs ds ∧ ∀ G, DpAll X.K G dvs df
  con : ∀ x d, E.con.lookup x = some d → ∃ u v, X.mg x = some u ∧ RelV v u ∧ ∀ G, Dp X.K G v d
  tab : ∀ x t, E.tab.lookup x = some t → ∃ a, X.mg x = some (.ref a) ∧ KTab X.K X.w a t
  tk : L2N.Takes X W
def Snd (T : Tab) (den : Den) (W : WX) (X : Cx) : QQ → C → Prop
  | .o e, c => PE X e (tO T X.K W (mean den c).o)
  | .b e, c => PT X e (tB T X.K W (mean den c).b)
  | .w e, c => PW X e (tB T X.K W (mean den c).b)
  | .i tg e, c => PI X tg e (tI T X.K W (mean den c).i) ∧ ∀ env x, foldedSetIterable e env x = pure x
  | .l es, c => PA X es (tL T X.K W (mList (mean den c).l))
  | .lo es, c => PA X es (tOs T X.K W (mList (mean den c).lo))
  | .la es, c => PA X es (tA T X.K W (mList (mean den c).la))
  | .lf es, c => PJd X T W es (mean den c).lf
  | .p e, c => L2.PO X e (tPt T X.K W (mean den c).p)

theorem star_cons {e : Expr} {es : List Expr} {env : PySem.Env} (h : notStar e = true) : starEach (e :: es) env = (false, eval e env) :: starEach es env := by
  cases e <;> first | rfl | cases h
theorem star_one {e : Expr} {env : PySem.Env} (h : notStar e = true) : starEach [e] env = [(false, eval e env)] := star_cons h
theorem star_any : ∀ {es : List Expr} {env : PySem.Env} {pos : Pos}, es.all notStar = true → (backTo pos (starEach es env)).any (·.1) = false
  | [], _, _, _ => rfl
  | e :: es, env, pos, h => by
    rw [List.all_cons, Bool.and_eq_true] at h
    rw [star_cons h.1]
    show (false || (backTo pos (starEach es env)).any (·.1)) = false
    rw [star_any h.2]; rfl
theorem plain_ix {b : Expr} (h : notSlice b = true) : PlainIx b := fun o i => by
  cases b <;> first | rfl | cases h
theorem tru_ok {e : Expr} (h : truOk e = true) (env : PySem.Env) (whole : Sem Value) : isTrue e env whole = (do let v ← whole; standAt e.pos; holding [v] (truthy v)) := by
  cases e with
  | UnaryOp op x p => cases op <;> first | rfl | cases h
  | BoolOp _ _ _ => cases h
  | IfExp _ _ _ _ => cases h
  | Compare _ _ _ _ => cases h
  | _ => rfl
theorem base_ok {a : Expr} (h : baseOk a = true) (m : Str) (env : PySem.Env) : attributeBase a m env (eval a env) = eval a env := by
  cases a <;> first | rfl | cases h
theorem folded_ok {e : Expr} (h : ∀ x y z, e ≠ .Set x y z) (env : PySem.Env) (x : Value) : foldedSetIterable e env x = pure x := by
  cases e <;> first | rfl | exact absurd rfl (h _ _ _)
theorem ixOf_at {x : Str} : ∀ {N : List Str} {i : Nat}, ixOf x N = some i → N[i]? = some x
  | [], _, h => by cases h
  | y :: ys, i, h => by
    unfold ixOf at h
    split at h
    · rename_i q; cases h; rw [beq_iff_eq] at q; rw [q]; rfl
    · cases q : ixOf x ys with
      | none => rw [q] at h; cases h
      | some j => rw [q] at h; cases h; simpa using ixOf_at q
theorem okNm_iff {x : Str} (h : okNm x = true) : (x == ("__debug__" : Str)) = false ∧ (x == ("__classdict__" : Str)) = false ∧ x ≠ ("__name__" : Str) := by
  unfold okNm at h
  simp only [Bool.and_eq_true, Bool.not_eq_true'] at h
  refine ⟨h.1.1, h.1.2, fun z => ?_⟩
  have q := h.2
  rw [z] at q
  exact absurd q (by decide +kernel)
section
variable {T : Tab} {den : Den} {W : WX} {E : CE} {k : Nat} {X : Cx}
theorem var_at {x : Str} {i : Nat} (g : GoodE T den W E k X) (h : E.var x = some i) : X.N[i]? = some x ∧ Vis X.env.scope x ∧ (x == ("__debug__" : Str)) = false ∧ (x == ("__classdict__" : Str)) = false := by
  unfold CE.var at h
  split at h
  · rename_i q
    rw [Bool.and_eq_true] at q
    obtain ⟨k1, k2, _⟩ := okNm_iff q.2
    refine ⟨by rw [g.hN]; exact ixOf_at h, ?_, k1, k2⟩
    rw [g.sc]
    have q := q.1
    unfold visB at q
    unfold Vis
    split at q
    · exact .inl ‹_›
    · exact .inr (.inl ‹_›)
    · exact .inr (.inr ‹_›)
    · cases q
  · cases h
theorem glob_at {x : Str} (g : GoodE T den W E k X) (h : E.glob x = true) : Gl X x ∧ (x == ("__debug__" : Str)) = false ∧ x ≠ ("__name__" : Str) := by
  unfold CE.glob at h
  rw [Bool.and_eq_true] at h
  obtain ⟨k1, k2, k3⟩ := okNm_iff h.2
  refine ⟨?_, k1, k3⟩
  show X.env.scope.names.lookup x = _
  rw [g.sc]
  exact beq_iff_eq.mp h.1
theorem sto_at {x : Str} {i : Nat} (g : GoodE T den W E k X) (h : E.sto x = some i) : Nm X i x := by
  unfold CE.sto at h
  split at h
  · rename_i q
    obtain ⟨h1, _⟩ := g.sto x _ q
    exact ⟨by rw [g.hN]; exact ixOf_at h, .inl (h1 rfl), .inr (h1 rfl)⟩
  · rename_i q
    obtain ⟨_, h1⟩ := g.sto x _ q
    obtain ⟨h2, h3⟩ := h1 rfl
    exact ⟨by rw [g.hN]; exact ixOf_at h, .inr h2, .inl h3⟩
  · cases h
theorem blt_at {x : Str} (g : GoodE T den W E k X) (h : x ∈ bltN) : X.mg x = none := g.blt x h
theorem units_ok (g : GoodE T den W E k X) : X.A.units + 65 < cLine := by have := g.room.un; omega
theorem stos_at (g : GoodE T den W E k X) {is : List Nat} : ∀ {es : List Expr} {js : List Nat}, E.stos es = some js → (∀ j ∈ js, j ∈ is) → PGs X es (tGs X.K is js) ∧ (assignEach es X.env).length = js.length ∧ (assignEach es X.env).findIdx? (·.1) = none
  | [], js, h, _ => by cases h; exact ⟨sgs_nil, rfl, rfl⟩
  | e :: es, js, h, hs => by
    cases e with
    | Name x p =>
      have h : (E.sto x).bind (fun i => (E.stos es).map (i :: ·)) = some js := h
      simp only [Option.bind_eq_some_iff, Option.map_eq_some_iff] at h
      obtain ⟨i, h1, l, h2, rfl⟩ := h
      obtain ⟨k1, k2, k3⟩ := stos_at g (is := is) h2 fun j hj => hs j (List.mem_cons_of_mem _ hj)
      refine ⟨sgs_cons (by rw [g.hN]; exact g.nd) (sto_at g h1) (hs i List.mem_cons_self) k1, ?_, ?_⟩
      · show (assignEach es X.env).length + 1 = _
        rw [k2]; rfl
      · show List.findIdx? (·.1) ((false, assign (.Name x p) X.env) :: assignEach es X.env) = none
        rw [List.findIdx?_cons]
        simp only [Bool.false_eq_true, if_false]
        rw [k3]; rfl
    | _ => cases h
theorem tg_at (g : GoodE T den W E k X) {e : Expr} {t : Tg} {is : List Nat} (h : E.tg e = some t) (hs : ∀ j ∈ tgIs t, j ∈ is) : PG X e (tG X.K is (tgF [] t)) := by
  unfold CE.tg at h
  split at h
  · rw [Option.map_eq_some_iff] at h
    obtain ⟨i, h1, rfl⟩ := h
    exact sg_name (by rw [g.hN]; exact g.nd) (sto_at g h1) (hs i List.mem_cons_self)
  · simp only [Option.bind_eq_some_iff, Option.map_eq_some_iff] at h
    obtain ⟨i, h1, j, h2, rfl⟩ := h
    exact sg_star g.calm (by rw [g.hN]; exact g.nd) (sto_at g h1) (sto_at g h2) (hs i List.mem_cons_self) (hs j (List.mem_cons_of_mem _ List.mem_cons_self))
  · rw [Option.map_eq_some_iff] at h
    obtain ⟨js, h1, rfl⟩ := h
    obtain ⟨k1, k2, k3⟩ := stos_at g (is := is) h1 hs
    exact sg_tup g.calm k1 k2 k3
  · cases h
theorem path_at (g : GoodE T den W E k X) : ∀ {n : Nat} {e : Expr} {i : Nat} {p : List Int}, E.path n e = some (i, p) → PE X e (tP X.K i p) ∧ PE X e (tPA X.K i p)
  | 0, _, _, _, h => by cases h
  | n + 1, e, i, p, h => by
    cases e with
    | Name x pos =>
      have h : (E.var x).map (fun i => (i, ([] : List Int))) = some (i, p) := h
      rw [Option.map_eq_some_iff] at h
      obtain ⟨j, h1, h2⟩ := h
      cases h2
      obtain ⟨a1, a2, a3, a4⟩ := var_at g h1
      exact ⟨sp_name a1 a2 a3 a4, spa_name a1 a2 a3 a4⟩
    | Subscript a b pos =>
      have h : (intOf b).bind (fun k => (E.path n a).map fun r => (r.1, r.2 ++ [k])) = some (i, p) := h
      simp only [Option.bind_eq_some_iff, Option.map_eq_some_iff] at h
      obtain ⟨kk, h1, ⟨j, q⟩, h2, h3⟩ := h
      cases h3
      obtain ⟨p1, p2⟩ := path_at g h2
      have hb : PE X b (tC (.int kk)) ∧ PlainIx b := by
        unfold intOf at h1
        split at h1
        · cases h1; exact ⟨pe_int, fun _ _ => rfl⟩
        · cases h1; exact ⟨pe_imp (pe_un un_neg pe_int) fun σ H Q h => ⟨_, rfl, h⟩, fun _ _ => rfl⟩
        · cases h1
      exact ⟨sp_ix p1 hb.1 hb.2, spa_ix p2 hb.1 hb.2⟩
    | _ => cases h

theorem good_blk {scope : Scope} (g : GoodE T den W E k X) (s : Shared) (H : Hp) (Ca : Addr) (cl : List (Str × Addr)) (fp : List Addr) : GoodE T den W0 (E.blk scope) k (X.blk s H scope (compEnvC scope cl Ca X.env) fp) := by
  refine ⟨g.hN, g.nd, ?_, g.calm, g.room, g.grd, fun x kd h => ⟨fun e => ?_, fun e => ⟨?_, ?_⟩⟩, g.blt, g.fns, g.con, g.tab, fun u s' ⟨_, _, _, _, _, _, _, _, _, _, _, _, _, _, _, _, h⟩ => h.elim⟩
  · show relS scope X.env.scope = relS scope E.sc
    rw [g.sc]
  · subst e
    exact lookup_relS_keep (by intro z; cases z) h
  · subst e
    exact lookup_relS_keep (by intro z; cases z) h
  · subst e
    show (scope.names.lookup x == some .cell) = true
    have h : scope.names.lookup x = some .cell := h
    rw [h]; rfl
theorem own_ix {N : List Str} : ∀ {names : List (Str × NameKind)} {q : Str × Nat}, q ∈ ownN N names → N[q.2]? = some q.1
  | [], _, h => by cases h
  | (x, kd) :: r, q, h => by
    unfold ownN at h
    split at h
    · split at h
      · rename_i i hi
        rcases List.mem_cons.mp h with z | z
        · rw [z]; exact ixOf_at hi
        · exact own_ix z
      · exact own_ix h
    · exact own_ix h
theorem own_all {N : List Str} : ∀ {names : List (Str × NameKind)} {y : Str × NameKind}, y ∈ names → y.2 = .local ∨ y.2 = .cell → y.1 ∈ (ownN N names).map (fun q => q.1) ∨ y.1 ∉ N
  | [], _, h, _ => by cases h
  | (x, kd) :: r, y, h, hk => by
    rcases List.mem_cons.mp h with z | z
    · subst z
      have q : (kd == NameKind.local || kd == NameKind.cell) = true := by
        rcases hk with z | z
        · rw [show kd = NameKind.local from z]; rfl
        · rw [show kd = NameKind.cell from z]; rfl
      unfold ownN
      rw [if_pos q]
      cases e : ixOf x N with
      | some i => exact .inl List.mem_cons_self
      | none =>
        refine .inr fun hm => ?_
        have key : ∀ {l : List Str}, x ∈ l → ixOf x l ≠ none := by
          intro l
          induction l with
          | nil => intro h; cases h
          | cons y ys ih =>
            intro hm z
            unfold ixOf at z
            split at z
            · cases z
            · rename_i q
              rcases List.mem_cons.mp hm with w | w
              · exact q (by rw [w]; exact beq_self_eq_true y)
              · cases q2 : ixOf x ys with
                | none => exact ih w q2
                | some j => rw [q2] at z; cases z
        exact key hm e
    · rcases own_all (N := N) z hk with w | w
      · refine .inl ?_
        unfold ownN
        split
        · split
          · exact List.mem_cons_of_mem _ w
          · exact w
        · exact w
      · exact .inr w
theorem blk_ok {scope : Scope} (h : blkB E.N E.sc scope = true) : BlkOk E.N E.sc scope (ownN E.N scope.names) := by
  unfold blkB at h
  rw [Bool.and_eq_true, Bool.and_eq_true] at h
  obtain ⟨⟨h1, h2⟩, h3⟩ := h
  refine ⟨of_decide_eq_true h1, fun y hy => beq_iff_eq.mp (List.all_eq_true.mp h2 y hy), fun q hq => own_ix hq, fun y hy hk => ?_, fun y hy hk => own_all hy hk⟩
  have q := List.all_eq_true.mp h3 y hy
  rw [hk] at q
  simp only [Bool.or_eq_true, beq_iff_eq] at q
  rcases q with (q | q) | q
  · exact absurd q (by decide)
  · exact .inl q
  · exact .inr q
theorem tb_yes {X1 : Cx} {W1 : WX} : PTs X1 [] (tB T X1.K W1 (pur true)) := ⟨fun pins s σ H Q I ⟨g, G, env, ts, fp, S, h⟩ => pts_nil.run pins s σ H Q I (h G H fp (Ex.refl G) S)⟩
end
end MP

set_option Elab.async false
set_option linter.all false
set_option maxRecDepth 100000
set_option maxHeartbeats 8000000
namespace MP
open PySem PySem.Spec PyProof.Rows L2
section
variable {T : Tab} {den : Den} {W : WX} {E : CE} {k : Nat} {X : Cx} {rec : Rec}
abbrev IHs (T : Tab) (den : Den) (k : Nat) (rec : Rec) : Prop := ∀ (q : QQ) (c : C) (W : WX) (E : CE) (X : Cx), GoodE T den W E k X → rec E q = some c → Snd T den W X q c
theorem se_fr {e : Expr} {m : M O} (h : PE X e (tO T X.K W m)) : PE X e (tO T X.K W (mFr m)) :=
  pe_imp h fun σ H Q ⟨g, G, env, ts, fp, S, h⟩ => ⟨g, G, env, ts, fp, S, h.bnd.mono fun o e1 k v G1 H1 fp1 x S1 => by
    obtain ⟨G2, fp2, x2, dp, S2⟩ := S1.frzT
    obtain ⟨fp3, S3⟩ := S2.pushVal dp
    exact k v G2 H1 fp3 (x.trans x2) S3⟩
theorem name_ok {x : Str} {p : Pos} {c : C} (g : GoodE T den W E k X) (h : cName E x = some c) : PE X (.Name x p) (tO T X.K W (mean den c).o) := by
  unfold cName at h
  split at h
  · rename_i i hi
    cases h
    obtain ⟨a1, a2, a3, a4⟩ := var_at g hi
    exact se_var a1 a2 a3 a4
  · split at h
    · rename_i hg
      rw [Option.map_eq_some_iff] at h
      obtain ⟨d, h1, rfl⟩ := h
      obtain ⟨u, v, m, r, hd⟩ := g.con x d h1
      obtain ⟨g1, g2, _⟩ := glob_at g hg
      exact se_glob g1 m r hd g2
    · cases h
theorem biOf_at {f : Str} {b : Bi} (h : biOf f = some b) : biName b = f := by
  unfold biOf at h
  have := List.find?_some h
  exact beq_iff_eq.mp this
theorem bi_blt (b : Bi) : biName b ∈ bltN := by cases b <;> decide +kernel
theorem call1_ok (IH : IHs T den k rec) {f : Str} {a : Expr} {p pos : Pos} {c : C} (g : GoodE T den W E k X) (hf : E.glob f = true) (h : cCall1 rec E f a = some c) : PE X (.Call (.Name f p) [a] [] pos) (tO T X.K W (mean den c).o) := by
  obtain ⟨g1, g2, g3⟩ := glob_at g hf
  unfold cCall1 at h
  split at h
  · rename_i e
    rw [beq_iff_eq] at e
    subst e
    split at h
    · rename_i gg pp b pos2
      split at h
      · rename_i e2
        rw [Bool.and_eq_true, beq_iff_eq] at e2
        obtain ⟨e2, e3⟩ := e2
        subst e2
        split at h
        · rename_i hb
          rw [Option.map_eq_some_iff] at h
          obtain ⟨c1, h1, rfl⟩ := h
          have gs : Gl X "set" := by
            show X.env.scope.names.lookup _ = _
            rw [g.sc]; exact beq_iff_eq.mp e3
          exact se_sortSet g.calm (by have := units_ok g; omega) g1 (blt_at g (by decide +kernel)) gs (blt_at g (by decide +kernel)) (se_fz (IH (.o b) c1 W E X g h1)) (star_one hb) rfl
        · cases h
      · rw [Option.map_eq_some_iff] at h
        obtain ⟨c1, h1, rfl⟩ := h
        exact se_sort (by have := units_ok g; omega) g1 (blt_at g (by decide +kernel)) (se_fz (IH (.o _) c1 W E X g h1)) rfl
    · split at h
      · rename_i hb
        rw [Option.map_eq_some_iff] at h
        obtain ⟨c1, h1, rfl⟩ := h
        exact se_sort (by have := units_ok g; omega) g1 (blt_at g (by decide +kernel)) (se_fz (IH (.o _) c1 W E X g h1)) (star_one hb)
      · cases h
  · split at h
    · rename_i e
      rw [beq_iff_eq] at e
      subst e
      split at h
      · rename_i hb
        rw [Option.map_eq_some_iff] at h
        obtain ⟨c1, h1, rfl⟩ := h
        exact se_repr g.grd (by have := units_ok g; omega) g1 (blt_at g (by decide +kernel)) (se_fz (IH (.o _) c1 W E X g h1)) (star_one hb)
      · cases h
    · split at h
      · rename_i e
        rw [beq_iff_eq] at e
        subst e
        have gen : ∀ c1, notStar a = true → rec E (.l [a]) = some c1 → PE X (.Call (.Name "len" p) [a] [] pos) (tO T X.K W (mBi .len (mean den c1).l)) := fun c1 hb h1 =>
          se_bi (x := .len) (bi_ok g.calm .len) g1 (blt_at g (by decide +kernel)) (IH (.l [a]) c1 W E X g h1) g3 g2 (star_one hb) rfl
        split at h
        · split at h
          · rename_i i hi
            cases h
            obtain ⟨a1, a2, a3, a4⟩ := var_at g hi
            exact se_lenN a1 a2 a3 a4 g1 (blt_at g (by decide +kernel)) rfl
          · rw [Option.map_eq_some_iff] at h
            obtain ⟨c1, h1, rfl⟩ := h
            exact gen c1 rfl h1
        · split at h
          · rename_i hb
            rw [Option.map_eq_some_iff] at h
            obtain ⟨c1, h1, rfl⟩ := h
            exact gen c1 hb h1
          · cases h
      · split at h
        · rename_i b hb
          have e := biOf_at hb
          subst e
          split at h
          · rename_i hs
            rw [Option.map_eq_some_iff] at h
            obtain ⟨c1, h1, rfl⟩ := h
            exact se_bi (bi_ok g.calm b) g1 (blt_at g (bi_blt b)) (IH (.l [a]) c1 W E X g h1) g3 g2 (star_one hs) rfl
          · cases h
        · cases h
theorem typ_at {x : Str} {ty : String} (h : typOf x = some ty) : bootBuiltins x = some (.type ty) ∧ x ∈ bltN := by
  unfold typOf at h
  split at h
  · rename_i e; rw [beq_iff_eq] at e; subst e; cases h; exact ⟨by decide +kernel, by decide +kernel⟩
  · split at h
    · rename_i e; rw [beq_iff_eq] at e; subst e; cases h; exact ⟨by decide +kernel, by decide +kernel⟩
    · split at h
      · rename_i e; rw [beq_iff_eq] at e; subst e; cases h; exact ⟨by decide +kernel, by decide +kernel⟩
      · split at h
        · rename_i e; rw [beq_iff_eq] at e; subst e; cases h; exact ⟨by decide +kernel, by decide +kernel⟩
        · split at h
          · rename_i e; rw [beq_iff_eq] at e; subst e; cases h; exact ⟨by decide +kernel, by decide +kernel⟩
          · split at h
            · rename_i e; rw [beq_iff_eq] at e; subst e; cases h; exact ⟨by decide +kernel, by decide +kernel⟩
            · cases h
theorem call2_ok (IH : IHs T den k rec) {f : Str} {a b : Expr} {p pos : Pos} {c : C} (g : GoodE T den W E k X) (hf : E.glob f = true) (h : cCall2 rec E f a b = some c) : PE X (.Call (.Name f p) [a, b] [] pos) (tO T X.K W (mean den c).o) := by
  obtain ⟨g1, g2, g3⟩ := glob_at g hf
  unfold cCall2 at h
  split at h
  · rename_i e
    rw [beq_iff_eq] at e
    subst e
    split at h
    · split at h
      · rename_i ty hty
        split at h
        · rename_i hs
          rw [Bool.and_eq_true] at hs
          rw [Option.map_eq_some_iff] at h
          obtain ⟨c1, h1, rfl⟩ := h
          obtain ⟨t1, t2, t3⟩ := glob_at g hs.2
          obtain ⟨v1, v2⟩ := typ_at hty
          exact se_isi (se_fz (IH (.o a) c1 W E X g h1)) g1 (blt_at g (by decide +kernel)) t1 (blt_at g v2) v1 t3 t2 (star_cons hs.1) rfl
        · cases h
      · cases h
    · cases h
  · split at h
    · rename_i bb hb
      have e := biOf_at hb
      subst e
      split at h
      · rename_i hs
        rw [Bool.and_eq_true] at hs
        rw [Option.map_eq_some_iff] at h
        obtain ⟨c1, h1, rfl⟩ := h
        exact se_bi (bi_ok g.calm bb) g1 (blt_at g (bi_blt bb)) (IH (.l [a, b]) c1 W E X g h1) g3 g2 (star_cons hs.1) (star_any (es := [b]) (by simp [hs.2]))
      · cases h
    · cases h
theorem call_ok (IH : IHs T den k rec) {f : Str} {args : List Expr} {p pos : Pos} {c : C} (g : GoodE T den W E k X) (h : cCall rec E f args = some c) : PE X (.Call (.Name f p) args [] pos) (tO T X.K W (mean den c).o) := by
  unfold cCall at h
  split at h
  · rename_i hf
    obtain ⟨g1, g2, g3⟩ := glob_at g hf
    split at h
    · rename_i n df hfn
      obtain ⟨ad, fd, ps, dvs, ds, m1, m2, F, B, V1, hd⟩ := g.fns f n df hfn
      split at h
      · cases h
        exact se_callD (den := den) (ms := []) hd (fun σ H Q ⟨gh, G, env, ts, fp, S, h⟩ => h [] G H fp (Ex.refl G) S trivial) (pe_callG0 F g.room g.grd g1 m1 m2 B V1 (fun σ => L2N.passAt g.tk σ) g2)
      · split at h
        · rename_i e es hs
          rw [Option.map_eq_some_iff] at h
          obtain ⟨c1, h1, rfl⟩ := h
          have ha := IH (.la _) c1 W E X g h1
          rw [List.all_cons, Bool.and_eq_true] at hs
          exact se_callD hd (fun σ H Q h => h) (pe_callG F g.room g.grd g1 m1 m2 B V1 (fun σ => L2N.passAt g.tk σ) ha g2 (star_cons hs.1) (star_any hs.2))
        · cases h
    · split at h
      · exact call1_ok IH g hf h
      · exact call2_ok IH g hf h
      · cases h
  · cases h

theorem cond_ok (IH : IHs T den k rec) {ifs : List Expr} {cond : C} {E1 : CE} {X1 : Cx} (g1 : GoodE T den W0 E1 k X1) (h : ((match ifs with
        | [] => some .yes
        | [c] => rec E1 (.b c)
        | _ => none) : Option C) = some cond) : PTs X1 ifs (tB T X1.K W0 (mean den cond).b) := by
  split at h
  · cases h; exact tb_yes
  · exact pts_one (IH (.b _) cond W0 E1 X1 g1 h)
  · cases h
theorem lc_ok (IH : IHs T den k rec) {elt tg iter : Expr} {ifs : List Expr} {scope : Scope} {pos : Pos} {c : C} (g : GoodE T den W E k X) (h : cLc rec E elt tg iter ifs scope = some c) :
    ∃ it t cond el, c = .lc it (ownI E.N scope) t cond el ∧ PE X (.ListComp elt [⟨tg, iter, ifs, 0⟩] scope pos) (tO T X.K W (mean den c).o) ∧ PI X tg iter (tI T X.K W (mean den it).i) ∧ BlkOk X.N X.env.scope scope (ownN E.N scope.names) ∧
      (∀ (s : Shared) (H : Hp) (Ca : Addr) (cl : List (Str × Addr)) (fp : List Addr), PG (X.blk s H scope (compEnvC scope cl Ca X.env) fp) tg (tG X.K (ownI E.N scope) (tgF [] t)) ∧ PTs (X.blk s H scope (compEnvC scope cl Ca X.env) fp) ifs (tB T X.K W0 (mean den cond).b) ∧ PE (X.blk s H scope (compEnvC scope cl Ca X.env) fp) elt (tD T X.K W0 (fz (mean den el).o))) ∧
      (∀ env x, foldedSetIterable iter env x = pure x) ∧ ∀ i ∈ ownI E.N scope, 8 ≤ i := by
  unfold cLc at h
  split at h
  · rename_i hb
    simp only [Option.bind_eq_some_iff] at h
    obtain ⟨it, h1, t, h2, cond, h3, el, h4, h5⟩ := h
    split at h5
    · rename_i hw8
      rw [Bool.and_eq_true] at hw8
      obtain ⟨hw, h8⟩ := hw8
      have h8 : ∀ i ∈ ownI E.N scope, 8 ≤ i := fun i hi => of_decide_eq_true (List.all_eq_true.mp h8 i hi)
      cases h5
      obtain ⟨i1, i2⟩ := IH (.i tg iter) it W E X g h1
      have B : BlkOk X.N X.env.scope scope (ownN E.N scope.names) := by rw [g.hN, g.sc]; exact blk_ok hb
      have parts : ∀ (s : Shared) (H : Hp) (Ca : Addr) (cl : List (Str × Addr)) (fp : List Addr), PG (X.blk s H scope (compEnvC scope cl Ca X.env) fp) tg (tG X.K (ownI E.N scope) (tgF [] t)) ∧ PTs (X.blk s H scope (compEnvC scope cl Ca X.env) fp) ifs (tB T X.K W0 (mean den cond).b) ∧ PE (X.blk s H scope (compEnvC scope cl Ca X.env) fp) elt (tD T X.K W0 (fz (mean den el).o)) := fun s H Ca cl fp => by
        have gb := good_blk (scope := scope) g s H Ca cl fp
        exact ⟨tg_at gb h2 fun j hj => by
          have := List.all_eq_true.mp hw j hj
          exact List.contains_iff_mem.mp this, cond_ok IH gb h3, se_fz (IH (.o elt) el W0 _ _ gb h4)⟩
      refine ⟨it, t, cond, el, rfl, ?_, i1, B, parts, i2, h8⟩
      exact pe_imp (pe_lc g.calm (by rw [g.hN]; exact g.nd) i1 B (fun s H Ca cl fp => (parts s H Ca cl fp).1) (fun s H Ca cl fp => (parts s H Ca cl fp).2.1) (fun s H Ca cl fp => (parts s H Ca cl fp).2.2) (i2 _)) fun σ H Q h => lc_imp h8 σ H Q h
    · cases h5
  · cases h
theorem lcB_ok (IH : IHs T den k rec) {elt tg iter tg1 iter1 : Expr} {ifs ifs1 : List Expr} {scope : Scope} {pos : Pos} {c : C} (g : GoodE T den W E k X) (h : cLcB rec E elt tg iter ifs tg1 iter1 ifs1 scope = some c) :
    PE X (.ListComp elt [⟨tg, iter, ifs, 0⟩, ⟨tg1, iter1, ifs1, 0⟩] scope pos) (tO T X.K W (mean den c).o) := by
  unfold cLcB at h
  split at h
  · rename_i hb
    simp only [Option.bind_eq_some_iff] at h
    obtain ⟨it, h1, t, h2, cond, h3, it1, h4, t1, h5, cond1, h6, el, h7, h8⟩ := h
    split at h8
    · rename_i hw8
      cases h8
      rw [Bool.and_eq_true, Bool.and_eq_true] at hw8
      obtain ⟨hw, h8⟩ := hw8
      have h8 : ∀ i ∈ ownI E.N scope, 8 ≤ i := fun i hi => of_decide_eq_true (List.all_eq_true.mp h8 i hi)
      obtain ⟨i1, i2⟩ := IH (.i tg iter) it W E X g h1
      have B : BlkOk X.N X.env.scope scope (ownN E.N scope.names) := by rw [g.hN, g.sc]; exact blk_ok hb
      have m1 : ∀ j ∈ tgIs t, j ∈ ownI E.N scope := fun j hj => List.contains_iff_mem.mp (List.all_eq_true.mp hw.1 j hj)
      have m2 : ∀ j ∈ tgIs t1, j ∈ ownI E.N scope := fun j hj => List.contains_iff_mem.mp (List.all_eq_true.mp hw.2 j hj)
      refine pe_imp (pe_lc2 (own := ownN E.N scope.names) (vs1 := tgIs t1) (wi1 := tI T X.K W0 (mean den it1).i) (g := tG X.K (ownI E.N scope) (tgF [] t)) (g1 := tG X.K (tgIs t1) (tgF [] t1)) (tt := tB T X.K W0 (mean den cond).b) (tt1 := tB T X.K W0 (mean den cond1).b) (te := tD T X.K W0 (fz (mean den el).o)) g.calm (by rw [g.hN]; exact g.nd) i1 B m2 (fun s H Ca cl fp => ?_) (fun s H Ca cl fp => ?_) (fun s H Ca cl fp => ?_) (fun s H Ca cl fp => ?_) (fun s H Ca cl fp => ?_) (fun s H Ca cl fp => ?_) (i2 _) ?_) fun σ H Q h => lcB_imp h8 m2 σ H Q h
      · exact tg_at (good_blk (scope := scope) g s H Ca cl fp) h2 m1
      · exact cond_ok IH (good_blk (scope := scope) g s H Ca cl fp) h3
      · exact (IH (.i tg1 iter1) it1 W0 _ _ (good_blk (scope := scope) g s H Ca cl fp) h4).1
      · exact tg_at (good_blk (scope := scope) g s H Ca cl fp) h5 fun j hj => hj
      · exact cond_ok IH (good_blk (scope := scope) g s H Ca cl fp) h6
      · exact se_fz (IH (.o elt) el W0 _ _ (good_blk (scope := scope) g s H Ca cl fp) h7)
      · exact (IH (.i tg1 iter1) it1 W0 _ _ (good_blk (scope := scope) g X.s_0 X.H_0 0 [] []) h4).2
    · cases h8
  · cases h

theorem o_ok (IH : IHs T den k rec) {e : Expr} {c : C} (g : GoodE T den W E k X) (h : cO rec E e = some c) : PE X e (tO T X.K W (mean den c).o) := by
  have hu := units_ok g
  unfold cO at h
  split at h
  · exact name_ok g h
  · cases h; exact se_c (v := .non) pe_non fun _ => .non
  · cases h; exact se_c (v := .bl _) pe_bl fun _ => .bl _
  · cases h; exact se_c (v := .int _) pe_int fun _ => .int _
  · cases h; exact se_c (v := .str _) pe_str fun _ => .str _
  · simp only [Option.bind_eq_some_iff, Option.map_eq_some_iff] at h
    obtain ⟨c1, h1, c2, h2, rfl⟩ := h
    exact se_bin (op_bin _) (se_fz (IH (.o _) c1 W E X g h1)) (se_fz (IH (.o _) c2 W E X g h2))
  · rw [Option.map_eq_some_iff] at h
    obtain ⟨c1, h1, rfl⟩ := h
    exact se_neg (se_fz (IH (.o _) c1 W E X g h1))
  · rw [Option.map_eq_some_iff] at h
    obtain ⟨c1, h1, rfl⟩ := h
    exact se_not (se_fz (IH (.o _) c1 W E X g h1))
  · exact se_one (IH (.o _) c W E X g h)
  · simp only [Option.bind_eq_some_iff, Option.map_eq_some_iff] at h
    obtain ⟨c1, h1, c2, h2, rfl⟩ := h
    exact se_and (se_fz (IH (.o _) c1 W E X g h1)) (IH (.o _) c2 W E X g h2)
  · simp only [Option.bind_eq_some_iff, Option.map_eq_some_iff] at h
    obtain ⟨c1, h1, c2, h2, rfl⟩ := h
    exact se_or (se_fz (IH (.o _) c1 W E X g h1)) (IH (.o _) c2 W E X g h2)
  · split at h
    · rename_i i p hp
      cases h
      exact se_cmpP hu (path_at g hp).1
    · rw [Option.map_eq_some_iff] at h
      obtain ⟨c1, h1, rfl⟩ := h
      exact se_cmp hu (se_fz (IH (.o _) c1 W E X g h1)) (se_fz (m := (mean den (.lst .nil)).o) (se_lst sl_nil)) rfl
  · split at h
    · cases h
    · rename_i hm
      simp only [Option.bind_eq_some_iff, Option.map_eq_some_iff] at h
      obtain ⟨c1, h1, c2, h2, rfl⟩ := h
      exact se_cmp hu (se_fz (IH (.o _) c1 W E X g h1)) (se_fz (IH (.o _) c2 W E X g h2)) (by simpa using hm)
  · split at h
    · cases h
    · rename_i hm
      simp only [Option.bind_eq_some_iff, Option.map_eq_some_iff] at h
      obtain ⟨c1, h1, c2, h2, c3, h3, rfl⟩ := h
      exact se_chain hu (se_fz (IH (.o _) c1 W E X g h1)) (se_fz (IH (.o _) c2 W E X g h2)) (se_fz (IH (.o _) c3 W E X g h3)) (by simpa using hm)
  · simp only [Option.bind_eq_some_iff, Option.map_eq_some_iff] at h
    obtain ⟨c1, h1, c2, h2, c3, h3, rfl⟩ := h
    exact se_if (IH (.b _) c1 W E X g h1) (IH (.o _) c2 W E X g h2) (IH (.o _) c3 W E X g h3)
  · simp only [Option.bind_eq_some_iff, Option.map_eq_some_iff] at h
    obtain ⟨c1, h1, c2, h2, c3, h3, rfl⟩ := h
    exact se_sl (se_fz (IH (.o _) c1 W E X g h1)) (IH (.p _) c2 W E X g h2) (IH (.p _) c3 W E X g h3)
  · split at h
    · rename_i hs
      split at h
      · rename_i i hi
        rw [Option.map_eq_some_iff] at h
        obtain ⟨c1, h1, rfl⟩ := h
        obtain ⟨a1, a2, a3, a4⟩ := var_at g hi
        exact se_sub a1 a2 a3 a4 (se_fz (IH (.o _) c1 W E X g h1)) (plain_ix hs)
      · simp only [Option.bind_eq_some_iff, Option.map_eq_some_iff] at h
        obtain ⟨c1, h1, c2, h2, rfl⟩ := h
        exact se_ix (se_fz (name_ok g h1)) (se_fz (IH (.o _) c2 W E X g h2)) (plain_ix hs)
    · cases h
  · split at h
    · rename_i hs
      simp only [Option.bind_eq_some_iff, Option.map_eq_some_iff] at h
      obtain ⟨c1, h1, c2, h2, rfl⟩ := h
      exact se_ix (se_fz (IH (.o _) c1 W E X g h1)) (se_fz (IH (.o _) c2 W E X g h2)) (plain_ix hs)
    · cases h
  · split at h
    · rw [Option.map_eq_some_iff] at h
      obtain ⟨c1, h1, rfl⟩ := h
      exact se_tup (IH (.l _) c1 W E X g h1)
    · cases h
  · split at h
    · rw [Option.map_eq_some_iff] at h
      obtain ⟨c1, h1, rfl⟩ := h
      exact se_lst (IH (.l _) c1 W E X g h1)
    · cases h
  · obtain ⟨it, t, cond, el, rfl, h1, _⟩ := lc_ok IH g h
    exact h1
  · exact lcB_ok IH g h
  · exact call_ok IH g h
  · split at h
    · rename_i hs
      rw [Bool.and_eq_true, Bool.and_eq_true] at hs
      obtain ⟨⟨s1, s2⟩, s3⟩ := hs
      split at h
      · rename_i e
        rw [beq_iff_eq] at e
        subst e
        simp only [Option.bind_eq_some_iff, Option.map_eq_some_iff] at h
        obtain ⟨c1, h1, c2, h2, rfl⟩ := h
        exact se_split (se_fz (IH (.o _) c1 W E X g h1)) (se_fz (IH (.o _) c2 W E X g h2)) (star_one s3) (base_ok s2 _ _) s1
      · split at h
        · rename_i e
          rw [beq_iff_eq] at e
          subst e
          simp only [Option.bind_eq_some_iff, Option.map_eq_some_iff] at h
          obtain ⟨c1, h1, c2, h2, rfl⟩ := h
          exact se_joinT (se_fz (IH (.o _) c1 W E X g h1)) (se_fz (IH (.o _) c2 W E X g h2)) (star_one s3) (base_ok s2 _ _) s1
        · cases h
    · cases h
  · split at h
    · rename_i hs
      simp only [Bool.and_eq_true, beq_iff_eq] at hs
      obtain ⟨⟨⟨⟨s1, s2⟩, s3⟩, s4⟩, s5⟩ := hs
      subst s5
      split at h
      · rename_i t ht
        simp only [Option.bind_eq_some_iff, Option.map_eq_some_iff] at h
        obtain ⟨c1, h1, c2, h2, rfl⟩ := h
        obtain ⟨ad, m1, KT⟩ := g.tab _ _ ht
        obtain ⟨g1, g2, g3⟩ := glob_at g s4
        refine se_kget KT g1 m1 g2 (se_fz (IH (.o _) c1 W E X g h1)) (se_fz (IH (.o _) c2 W E X g h2)) ⟨rfl, ?_, s1, ?_⟩
        · rw [star_cons s2, star_one s3]; rfl
        · rw [star_cons s2, star_one s3]; rfl
      · cases h
    · cases h
  · rw [Option.map_eq_some_iff] at h
    obtain ⟨c1, h1, rfl⟩ := h
    exact se_joined (IH (.lf _) c1 W E X g h1)
  · cases h
theorem b_ok (IH : IHs T den k rec) {e : Expr} {c : C} (g : GoodE T den W E k X) (h : cB rec E e = some c) : PT X e (tB T X.K W (mean den c).b) := by
  have hu := units_ok g
  unfold cB at h
  split at h
  · exact (IH (.w _) c W E X g h).pt
  · rw [Option.map_eq_some_iff] at h
    obtain ⟨c1, h1, rfl⟩ := h
    exact st_not (IH (.b _) c1 W E X g h1)
  · split at h
    · rename_i i p hp
      cases h
      exact st_cmpP hu (path_at g hp).1
    · rw [Option.map_eq_some_iff] at h
      obtain ⟨c1, h1, rfl⟩ := h
      exact st_cmp hu (se_fz (IH (.o _) c1 W E X g h1)) (se_fz (m := (mean den (.lst .nil)).o) (se_lst sl_nil)) rfl
  · split at h
    · cases h
    · rename_i hm
      simp only [Option.bind_eq_some_iff, Option.map_eq_some_iff] at h
      obtain ⟨c1, h1, c2, h2, rfl⟩ := h
      exact st_cmp hu (se_fz (IH (.o _) c1 W E X g h1)) (se_fz (IH (.o _) c2 W E X g h2)) (by simpa using hm)
  · split at h
    · cases h
    · rename_i hm
      simp only [Option.bind_eq_some_iff, Option.map_eq_some_iff] at h
      obtain ⟨c1, h1, c2, h2, c3, h3, rfl⟩ := h
      exact st_chain hu (se_fz (IH (.o _) c1 W E X g h1)) (se_fz (IH (.o _) c2 W E X g h2)) (se_fz (IH (.o _) c3 W E X g h3)) (by simpa using hm)
  · simp only [Option.bind_eq_some_iff, Option.map_eq_some_iff] at h
    obtain ⟨c1, h1, c2, h2, c3, h3, rfl⟩ := h
    exact st_if (IH (.b _) c1 W E X g h1) (IH (.b _) c2 W E X g h2) (IH (.b _) c3 W E X g h3)
  · split at h
    · rename_i ht
      rw [Option.map_eq_some_iff] at h
      obtain ⟨c1, h1, rfl⟩ := h
      exact st_tru (se_fz (IH (.o _) c1 W E X g h1)) (tru_ok ht _)
    · cases h
theorem w_ok (IH : IHs T den k rec) {e : Expr} {c : C} (g : GoodE T den W E k X) (h : cW rec E e = some c) : PW X e (tB T X.K W (mean den c).b) := by
  unfold cW at h
  split at h
  · rename_i op a pos
    cases op with
    | And => exact st_and1 (IH (.b _) c W E X g h)
    | Or => exact st_or1 (IH (.b _) c W E X g h)
  · simp only [Option.bind_eq_some_iff, Option.map_eq_some_iff] at h
    obtain ⟨c1, h1, c2, h2, rfl⟩ := h
    exact st_and (IH (.b _) c1 W E X g h1) (IH (.w _) c2 W E X g h2)
  · simp only [Option.bind_eq_some_iff, Option.map_eq_some_iff] at h
    obtain ⟨c1, h1, c2, h2, rfl⟩ := h
    exact st_or (IH (.b _) c1 W E X g h1) (IH (.w _) c2 W E X g h2)
  · cases h
theorem i_ok (IH : IHs T den k rec) {tg e : Expr} {c : C} (g : GoodE T den W E k X) (h : cI rec E tg e = some c) : PI X tg e (tI T X.K W (mean den c).i) ∧ ∀ env x, foldedSetIterable e env x = pure x := by
  unfold cI at h
  split at h
  · refine ⟨?_, folded_ok fun _ _ _ z => by cases z⟩
    split at h
    · rename_i hs
      simp only [Bool.and_eq_true, beq_iff_eq] at hs
      obtain ⟨⟨s1, s2⟩, s3⟩ := hs
      subst s2
      rw [Option.map_eq_some_iff] at h
      obtain ⟨c1, h1, rfl⟩ := h
      exact si_rng1 (glob_at g s1).1 (blt_at g (by decide +kernel)) (se_fz (IH (.o _) c1 W E X g h1)) (star_one s3)
    · split at h
      · rename_i hs
        simp only [Bool.and_eq_true, beq_iff_eq] at hs
        obtain ⟨⟨⟨s1, s2⟩, s3⟩, s4⟩ := hs
        subst s2
        rw [Option.map_eq_some_iff] at h
        obtain ⟨c1, h1, rfl⟩ := h
        unfold isTupE at s4
        split at s4
        · exact si_enum (glob_at g s1).1 (blt_at g (by decide +kernel)) (se_fz (IH (.o _) c1 W E X g h1)) (star_one s3)
        · cases s4
      · rw [Option.map_eq_some_iff] at h
        obtain ⟨c1, h1, rfl⟩ := h
        exact si_seq (se_fz (IH (.o _) c1 W E X g h1))
  · refine ⟨?_, folded_ok fun _ _ _ z => by cases z⟩
    split at h
    · rename_i hs
      simp only [Bool.and_eq_true, beq_iff_eq] at hs
      obtain ⟨⟨⟨s1, s2⟩, s3⟩, s4⟩ := hs
      subst s2
      simp only [Option.bind_eq_some_iff, Option.map_eq_some_iff] at h
      obtain ⟨c1, h1, c2, h2, rfl⟩ := h
      exact si_rng2 (glob_at g s1).1 (blt_at g (by decide +kernel)) (se_fz (IH (.o _) c1 W E X g h1)) (se_fz (IH (.o _) c2 W E X g h2)) (by rw [star_cons s3, star_one s4]) (star_one s4)
    · split at h
      · rename_i hs
        simp only [Bool.and_eq_true, beq_iff_eq] at hs
        obtain ⟨⟨⟨⟨s1, s2⟩, s3⟩, s4⟩, s5⟩ := hs
        subst s2
        simp only [Option.bind_eq_some_iff, Option.map_eq_some_iff] at h
        obtain ⟨c1, h1, c2, h2, rfl⟩ := h
        unfold isTupE at s5
        split at s5
        · exact si_zip (glob_at g s1).1 (blt_at g (by decide +kernel)) (se_fz (IH (.o _) c1 W E X g h1)) (se_fz (IH (.o _) c2 W E X g h2)) (star_cons s3) (star_one s4)
        · cases s5
      · rw [Option.map_eq_some_iff] at h
        obtain ⟨c1, h1, rfl⟩ := h
        exact si_seq (se_fz (IH (.o _) c1 W E X g h1))
  · refine ⟨?_, folded_ok fun _ _ _ z => by cases z⟩
    split at h
    · rename_i hs
      simp only [Bool.and_eq_true, beq_iff_eq] at hs
      obtain ⟨⟨⟨⟨s1, s2⟩, s3⟩, s4⟩, s5⟩ := hs
      subst s2
      simp only [Option.bind_eq_some_iff, Option.map_eq_some_iff] at h
      obtain ⟨c1, h1, c2, h2, c3, h3, rfl⟩ := h
      exact si_rng3 (glob_at g s1).1 (blt_at g (by decide +kernel)) (se_fz (IH (.o _) c1 W E X g h1)) (se_fz (IH (.o _) c2 W E X g h2)) (se_fz (IH (.o _) c3 W E X g h3)) (star_cons s3) (star_cons s4) (star_one s5)
    · rw [Option.map_eq_some_iff] at h
      obtain ⟨c1, h1, rfl⟩ := h
      exact si_seq (se_fz (IH (.o _) c1 W E X g h1))
  · cases h
  · rename_i hne
    rw [Option.map_eq_some_iff] at h
    obtain ⟨c1, h1, rfl⟩ := h
    exact ⟨si_seq (se_fz (IH (.o _) c1 W E X g h1)), folded_ok fun x y z q => hne x y z q⟩
theorem a_ok (IH : IHs T den k rec) {e : Expr} {c : C} (g : GoodE T den W E k X) (h : cA rec E e = some c) : PE X e (t1 T X.K W (mean den c).a) := by
  unfold cA at h
  split at h
  · split at h
    · rename_i i hi
      cases h
      obtain ⟨a1, a2, a3, a4⟩ := var_at g hi
      exact s1_name a1 a2 a3 a4
    · rw [Option.map_eq_some_iff] at h
      obtain ⟨c1, h1, rfl⟩ := h
      exact s1_val (IH (.o _) c1 W E X g h1)
  · rw [Option.map_eq_some_iff] at h
    obtain ⟨c1, h1, rfl⟩ := h
    exact s1_val (IH (.o _) c1 W E X g h1)
theorem q_ok (IH : IHs T den k rec) {q : QQ} {c : C} (g : GoodE T den W E k X) (h : cQ rec E q = some c) : Snd T den W X q c := by
  unfold cQ at h
  split at h
  · exact o_ok IH g h
  · exact b_ok IH g h
  · exact w_ok IH g h
  · exact i_ok IH g h
  · cases h; exact sl_nil
  · split at h
    · rename_i hs
      simp only [Option.bind_eq_some_iff, Option.map_eq_some_iff] at h
      obtain ⟨c1, h1, c2, h2, rfl⟩ := h
      exact sl_cons (se_fz (IH (.o _) c1 W E X g h1)) (IH (.l _) c2 W E X g h2) (star_cons hs)
    · cases h
  · cases h; exact sos_nil
  · split at h
    · rename_i hs
      simp only [Option.bind_eq_some_iff, Option.map_eq_some_iff] at h
      obtain ⟨c1, h1, c2, h2, rfl⟩ := h
      exact sos_cons (IH (.o _) c1 W E X g h1) (IH (.lo _) c2 W E X g h2) (star_cons hs)
    · cases h
  · cases h; exact sa_nil
  · split at h
    · rename_i hs
      simp only [Option.bind_eq_some_iff, Option.map_eq_some_iff] at h
      obtain ⟨c1, h1, c2, h2, rfl⟩ := h
      exact sa_cons (a_ok IH g h1) (IH (.la _) c2 W E X g h2) (star_cons hs)
    · cases h
  · cases h; exact .nil
  · rw [Option.map_eq_some_iff] at h
    obtain ⟨c1, h1, rfl⟩ := h
    exact .cons sf_c (IH (.lf _) c1 W E X g h1)
  · simp only [Option.bind_eq_some_iff, Option.map_eq_some_iff] at h
    obtain ⟨c1, h1, c2, h2, rfl⟩ := h
    exact .cons (sf_fmt (se_fz (IH (.o _) c1 W E X g h1))) (IH (.lf _) c2 W E X g h2)
  · cases h
  · cases h; exact sp_none
  · rw [Option.map_eq_some_iff] at h
    obtain ⟨c1, h1, rfl⟩ := h
    exact sp_some (se_fz (IH (.o _) c1 W E X g h1))
theorem cc_ok : ∀ n : Nat, IHs T den k (cc n)
  | 0 => fun _ _ _ _ _ _ h => by cases h
  | n + 1 => fun q c W E X g h => q_ok (cc_ok n) g h
end
end MP

set_option Elab.async false
set_option linter.all false
set_option maxRecDepth 100000
set_option maxHeartbeats 4000000
namespace MP
open PySem PySem.Spec PyProof.Rows L2

section
variable {K : PySem.W.Frag} {G H : Hp} {g : Gh} {env : Env} {σ : L2.St} {ts : Tmp} {fp : Ix → List Addr}
/-- what each item owns -/
theorem ros_parts : ∀ {os : List O} {vs : List V} {F : List Addr}, ROs K G H os vs F → ∃ Fs : List (List Addr), Fs.length = os.length ∧ F = Fs.flatten ∧ ∀ (k : Nat) (o : O) (v : V), (os.zip vs)[k]? = some (o, v) → RO K G H o v ((Fs[k]?).getD [])
  | _, _, _, .nil => ⟨[], rfl, rfl, fun k o v e => by simp at e⟩
  | _, _, _, .cons (F := A) (F' := B) h t => by
    obtain ⟨Fs, h1, h2, h3⟩ := ros_parts t
    refine ⟨A :: Fs, by simp [h1], by rw [h2]; rfl, fun k o v e => ?_⟩
    cases k with
    | zero => simp at e; obtain ⟨rfl, rfl⟩ := e; exact h
    | succ k => exact h3 k o v (by simpa using e)
theorem flat_dj : ∀ {Fs : List (List Addr)}, Fs.flatten.Nodup → (∀ (k : Nat), ((Fs[k]?).getD []).Nodup) ∧ ∀ (j k : Nat) (a : Addr), a ∈ (Fs[j]?).getD [] → a ∈ (Fs[k]?).getD [] → j = k
  | [], _ => ⟨fun k => by simp, fun j k a h => by simp at h⟩
  | A :: Fs, nd => by
    rw [List.flatten_cons] at nd
    obtain ⟨n1, n2, n3⟩ := List.nodup_append.mp nd
    obtain ⟨h1, h2⟩ := flat_dj n2
    have mem : ∀ (k : Nat) (a : Addr), a ∈ (Fs[k]?).getD [] → a ∈ Fs.flatten := fun k a h => by
      cases q : Fs[k]? with
      | none => rw [q] at h; simp at h
      | some B => rw [q] at h; exact List.mem_flatten.mpr ⟨B, List.mem_of_getElem? q, h⟩
    refine ⟨fun k => ?_, fun j k a hj hk => ?_⟩
    · cases k with
      | zero => simpa using n1
      | succ k => simpa using h1 k
    · cases j with
      | zero =>
        cases k with
        | zero => rfl
        | succ k => exact absurd rfl (n3 a (by simpa using hj) a (mem k a (by simpa using hk)))
      | succ j =>
        cases k with
        | zero => exact absurd rfl (n3 a (by simpa using hk) a (mem j a (by simpa using hj)))
        | succ k => rw [h2 j k a (by simpa using hj) (by simpa using hk)]
/-- a tuple of one's own opened -/
theorem Stt.untup {os : List O} {v : V} (S : Stt K g G H env σ (ts ++ [(.tup os, v)]) fp) : ∃ a vs fp', v = .ref a ∧ H a = some (.tup vs) ∧ vs.length = os.length ∧ Stt K g G H env σ (ts ++ os.zip vs) fp' := by
  have r := S.rep (.t ts.length) _ _ (by rw [att_push, if_pos rfl])
  obtain ⟨a, vs, F, rfl, eF, h1, h2⟩ := ro_tup r
  obtain ⟨Fs, k1, k2, k3⟩ := ros_parts h2
  have nd := S.nd (.t ts.length)
  rw [eF] at nd
  obtain ⟨_, nd⟩ := List.nodup_cons.mp nd
  rw [k2] at nd
  obtain ⟨d1, d2⟩ := flat_dj nd
  have sub : ∀ (k : Nat) (b : Addr), b ∈ (Fs[k]?).getD [] → b ∈ fp (.t ts.length) := fun k b h => by
    rw [eF, k2]
    cases q : Fs[k]? with
    | none => rw [q] at h; simp at h
    | some B => rw [q] at h; exact List.mem_cons_of_mem _ (List.mem_flatten.mpr ⟨B, List.mem_of_getElem? q, h⟩)
  refine ⟨a, vs, fun ix => match ix with
    | .s i => fp (.s i)
    | .t j => if j < ts.length then fp (.t j) else (Fs[j - ts.length]?).getD [], rfl, h1, ros_len h2, ?_⟩
  have up : ∀ ix b, b ∈ (match ix with | .s i => fp (.s i) | .t j => if j < ts.length then fp (.t j) else (Fs[j - ts.length]?).getD [] : List Addr) → (∃ n, ix = .t n ∧ ts.length ≤ n ∧ b ∈ (Fs[n - ts.length]?).getD []) ∨ ((∀ n, ix = .t n → n < ts.length) ∧ b ∈ fp ix) := fun ix b h => by
    cases ix with
    | s i => exact .inr ⟨fun n z => (by cases z), h⟩
    | t j =>
      have h : b ∈ (if j < ts.length then fp (.t j) else (Fs[j - ts.length]?).getD []) := h
      by_cases q : j < ts.length
      · rw [if_pos q] at h; exact .inr ⟨fun n z => by cases z; exact q, h⟩
      · rw [if_neg q] at h; exact .inl ⟨j, rfl, by omega, h⟩
  refine ⟨S.len, S.has, S.sub, fun ix o v e => ?_, fun ix => ?_, fun ix jx b ha hb => ?_, fun ix b hb => ?_, S.fr, S.dm, S.g0, S.go, S.kp⟩
  · cases ix with
    | s i => exact S.rep (.s i) o v e
    | t j =>
      have e : (ts ++ os.zip vs)[j]? = some (o, v) := e
      show RO K G H o v (if j < ts.length then fp (.t j) else (Fs[j - ts.length]?).getD [])
      by_cases q : j < ts.length
      · rw [if_pos q]
        rw [List.getElem?_append_left q] at e
        exact S.rep (.t j) o v (by show (ts ++ [(.tup os, .ref a)])[j]? = _; rw [List.getElem?_append_left q]; exact e)
      · rw [if_neg q]
        rw [List.getElem?_append_right (by omega)] at e
        exact k3 _ o v e
  · cases ix with
    | s i => exact S.nd _
    | t j =>
      show (if j < ts.length then fp (.t j) else (Fs[j - ts.length]?).getD []).Nodup
      split
      · exact S.nd _
      · exact d1 _
  · rcases up ix b ha with ⟨n, e1, l1, m1⟩ | ⟨n1, m1⟩ <;> rcases up jx b hb with ⟨m, e2, l2, m2⟩ | ⟨n2, m2⟩
    · have := d2 _ _ b m1 m2
      rw [e1, e2]
      have : n = m := by omega
      rw [this]
    · have := S.dj _ _ b (sub _ b m1) m2
      have := n2 _ this.symm
      omega
    · have := S.dj _ _ b m1 (sub _ b m2)
      have := n1 _ this
      omega
    · exact S.dj _ _ b m1 m2
  · rcases up ix b hb with ⟨n, _, _, m1⟩ | ⟨_, m1⟩
    · exact S.ow _ b (sub _ b m1)
    · exact S.ow _ b m1
/-- the first of the last temporaries goes into a slot -/
theorem Stt.storeF {o : O} {v : V} {ts' : Tmp} {i : Nat} (S : Stt K g G H env σ (ts ++ (o, v) :: ts') fp) (hi : i < env.length) (h8 : 8 ≤ i) : ∃ fp', Stt K g G H (env.set i (some o)) (σ.set i (some v)) (ts ++ ts') fp' := by
  have hi2 : i < σ.length := by rw [S.len]; exact hi
  let π : Ix → Ix := fun ix => match ix with
    | .s j => if j = i then .t ts.length else .s j
    | .t j => if j < ts.length then .t j else .t (j + 1)
  refine ⟨_, S.re π (fun ix jx h => ?_) (by rw [List.length_set, List.length_set]; exact S.len) (fun j o' e => ?_) (fun ix o' v' e => ?_) fun j hj => List.getElem?_set_ne (by omega)⟩
  · cases ix with
    | s a =>
      cases jx with
      | s b =>
        have h : (if a = i then Ix.t ts.length else .s a) = if b = i then Ix.t ts.length else .s b := h
        split at h <;> split at h
        · rename_i e1 e2; rw [e1, e2]
        · cases h
        · cases h
        · exact h
      | t b =>
        have h : (if a = i then Ix.t ts.length else .s a) = if b < ts.length then Ix.t b else .t (b + 1) := h
        split at h <;> split at h
        · injection h with h; omega
        · injection h with h; omega
        · cases h
        · cases h
    | t a =>
      cases jx with
      | s b =>
        have h : (if a < ts.length then Ix.t a else .t (a + 1)) = if b = i then Ix.t ts.length else .s b := h
        split at h <;> split at h
        · injection h with h; omega
        · cases h
        · injection h with h; omega
        · cases h
      | t b =>
        have h : (if a < ts.length then Ix.t a else .t (a + 1)) = if b < ts.length then Ix.t b else .t (b + 1) := h
        split at h <;> split at h
        · exact h
        · injection h with h; omega
        · injection h with h; omega
        · injection h with h; rw [show a = b by omega]
  · by_cases h : i = j
    · subst h; exact ⟨v, by rw [List.getElem?_set_self hi2]⟩
    · rw [List.getElem?_set_ne h] at e ⊢; exact S.has j o' e
  · cases ix with
    | s j =>
      obtain ⟨e1, e2⟩ := att_of e
      by_cases h : i = j
      · subst h
        rw [List.getElem?_set_self hi] at e1
        rw [List.getElem?_set_self hi2] at e2
        cases e1; cases e2
        show att env σ _ (if i = i then Ix.t ts.length else .s i) = _
        rw [if_pos rfl]
        show (ts ++ (o, v) :: ts')[ts.length]? = _
        simp
      · rw [List.getElem?_set_ne h] at e1 e2
        show att env σ _ (if j = i then Ix.t ts.length else .s j) = _
        rw [if_neg (Ne.symm h)]
        exact att_is e1 e2
    | t j =>
      have e : (ts ++ ts')[j]? = some (o', v') := e
      show att env σ _ (if j < ts.length then Ix.t j else .t (j + 1)) = _
      by_cases q : j < ts.length
      · rw [if_pos q]
        show (ts ++ (o, v) :: ts')[j]? = _
        rw [List.getElem?_append_left q] at e ⊢; exact e
      · rw [if_neg q]
        show (ts ++ (o, v) :: ts')[j + 1]? = _
        rw [List.getElem?_append_right (by omega)] at e ⊢
        rw [show j + 1 - ts.length = (j - ts.length) + 1 by omega]
        simpa using e
end
def tGsO (K : PySem.W.Frag) (js : List Nat) : TGs := fun vs σ H Q => ∃ g G env ts fp os e', Stt K g G H env σ (ts ++ os.zip vs) fp ∧ vs.length = os.length ∧ setAllO js os env = some e' ∧ ∀ σ' G' H' fp', Ex G G' → Stt K g G' H' e' σ' ts fp' → Q σ' H'
section
variable {X : Cx} {T : Tab} {W : WX} {pos : Pos}
theorem sgso_nil : PGs X [] (tGsO X.K []) := ⟨fun pins s σ H vs us Q I r ⟨g, G, env, ts, fp, os, e', S, hl, he, k⟩ => by
  cases os with
  | nil =>
    cases vs with
    | nil =>
      cases r
      have : env = e' := Option.some.inj he
      subst this
      rw [show ([] : List O).zip ([] : List V) = [] from rfl, List.append_nil] at S
      exact pgs_nil.run pins s σ H [] [] Q I .nil ⟨rfl, k σ G H fp (Ex.refl G) S⟩
    | cons v vs => cases hl
  | cons o os => cases he⟩
theorem sgso_cons {i : Nat} {x : Str} {es : List Expr} {js : List Nat} (hN : X.N.Nodup) (n : Nm X i x) (h : PGs X es (tGsO X.K js)) : PGs X (.Name x pos :: es) (tGsO X.K (i :: js)) := by
  refine ⟨fun pins s σ H vs us Q I r ⟨g, G, env, ts, fp, os, e', S, hl, he, k⟩ => ?_⟩
  cases os with
  | nil => cases he
  | cons o os =>
    cases vs with
    | nil => cases hl
    | cons v vr =>
      have he : (setL [] i o env).bind (setAllO js os) = some e' := he
      cases q : setL [] i o env with
      | none => rw [q] at he; cases he
      | some e1 =>
        rw [q] at he
        obtain ⟨h1, rfl⟩ := setL_some q
        have S : Stt X.K g G H env σ (ts ++ (o, v) :: os.zip vr) fp := S
        obtain ⟨fp', S'⟩ := S.storeF h1 (setL_ge q)
        exact (pgs_cons (pg_name hN n.ix n.loc n.fn) h).run pins s σ H _ us Q I r ⟨v, vr, rfl, ⟨g, G, _, ts, fp', os, e', S', by simpa using hl, he, k⟩⟩
theorem setAllO_len : ∀ {js : List Nat} {os : List O} {e e' : Env}, setAllO js os e = some e' → os.length = js.length
  | [], [], _, _, _ => rfl
  | [], _ :: _, _, _, h => by cases h
  | _ :: _, [], _, _, h => by cases h
  | i :: js, o :: os, e, e', h => by
    have h : (setL [] i o e).bind (setAllO js os) = some e' := h
    cases q : setL [] i o e with
    | none => rw [q] at h; cases h
    | some e1 => rw [q] at h; rw [List.length_cons, List.length_cons, setAllO_len (js := js) h]
theorem ss_tgtO {es : List Expr} {kk : Nat} {p1 : Pos} {e : Expr} {js : List Nat} {m : M O} (hc : X.calm = true) (he : PE X e (tO T X.K W m)) (h : PGs X es (tGsO X.K js)) (hn : (assignEach es X.env).length = js.length) (hst : (assignEach es X.env).findIdx? (·.1) = none)
    (hs : swapsWithSole [.Tuple es kk p1] e pos.line X.env = pure false) (hw : swappedStores [.Tuple es kk p1] e X.env = pure none) (h1 : (assignEach [.Tuple es kk p1] X.env).map (·.2) = [assign (.Tuple es kk p1) X.env]) :
    PS X (.Assign [.Tuple es kk p1] e pos) (tS T X.K W (sTgtO js m)) := by
  refine ps_imp (ps_asg he (pg_tup hc h hn hst) hs hw h1) ?_
  rintro D σ H ⟨g, G, env, ts, fp, S, h⟩
  refine ⟨g, G, env, ts, fp, S, h.bnd.mono fun o e1 k v G1 H1 fp1 z S1 => ?_⟩
  cases o with
  | val d => exact k.elim
  | lst os => exact k.elim
  | tup os =>
    have k : AftS T X.K W g ts D G (match setAllO js os e1 with
      | some e' => Out.ok Fl.nx e'
      | none => Out.no) := k
    cases q : setAllO js os e1 with
    | none => rw [q] at k; exact k.elim
    | some e2 =>
      rw [q] at k
      obtain ⟨a, vs, fp2, rfl, ha, hl, S2⟩ := S1.untup
      exact ⟨a, vs, rfl, .inl (.inl ha), hl.trans (setAllO_len q), g, G1, e1, ts, fp2, os, e2, S2, hl, q, fun σ' G' H' fp' y S' => k σ' G' H' fp' (z.trans y) S'⟩
end
end MP

set_option Elab.async false
set_option linter.all false
set_option maxRecDepth 100000
set_option maxHeartbeats 8000000
namespace MP
open PySem PySem.Spec PyProof.Rows L2

def notComp : Expr → Bool
  | .ListComp .. => false
  | .SetComp .. => false
  | .DictComp .. => false
  | _ => true
theorem sw_none {e : Expr} (h : notComp e = true) (l : Nat) (env : PySem.Env) : swapsWith e none l env = pure false := by
  cases e <;> first | rfl | cases h
theorem sw_sole {e tg : Expr} (h : notComp e = true) (l : Nat) (env : PySem.Env) : swapsWithSole [tg] e l env = pure false := by
  cases e <;> first | rfl | cases h
def isFnKind (sc : Scope) : Bool := (if sc.kind.isAnnotationScope then ScopeKind.function else sc.kind) == .function
def swSet (sc : Scope) (x : Str) (px : Pos) (scope : Scope) (pos : Pos) : Bool :=
  isFnKind sc && sc.names.lookup x == some .local && px.line == pos.line && !(scope.names.any fun (n, k) => n == x && (k == .local || k == .cell))
theorem sw_lc {elt : Expr} {gens : List Comprehension} {scope : Scope} {pos px : Pos} {x : Str} {l : Nat} {env : PySem.Env} : swapsWith (.ListComp elt gens scope pos) (some (.Name x px)) l env = pure (swSet env.scope x px scope pos) := rfl
theorem sw_name {e : Expr} (h : notComp e = true) (x : Str) (px : Pos) (l : Nat) (env : PySem.Env) : swapsWith e (some (.Name x px)) l env = pure false := by
  cases e <;> first | rfl | cases h
def notTup : Expr → Bool
  | .Tuple .. => false
  | _ => true
theorem st_tup {es : List Expr} {kk : Nat} {p : Pos} {e : Expr} (h : notTup e = true) (env : PySem.Env) : swappedStores [.Tuple es kk p] e env = pure none := by
  cases e <;> first | rfl | cases h
theorem st_sub {a b : Expr} {p : Pos} (e : Expr) (env : PySem.Env) : swappedStores [.Subscript a b p] e env = pure none := by
  cases e <;> rfl
def swS (sc : Scope) (ts vs : List Expr) : Option (Option (List Str)) :=
  if (!(ts.length == 2 || ts.length == 3) || vs.length != ts.length || !isFnKind sc) = true then some none
  else if (vs.any fun | .Starred .. => true | _ => false) = true then some none
  else if ((ts.filterMap fun
      | .Name id pos => if sc.names.lookup id == some .local && pos.line == (ts.head?.map (·.pos.line)).getD 0 then some id else none
      | _ => none).length != ts.length || (ts.filterMap fun
      | .Name id pos => if sc.names.lookup id == some .local && pos.line == (ts.head?.map (·.pos.line)).getD 0 then some id else none
      | _ => none).eraseDups.length != (ts.filterMap fun
      | .Name id pos => if sc.names.lookup id == some .local && pos.line == (ts.head?.map (·.pos.line)).getD 0 then some id else none
      | _ => none).length) = true then some none
  else if vs.all (foldedForSure 8) = true then some none
  else if vs.all (constantsAlone 8) = true then none
  else some (some (ts.filterMap fun
      | .Name id pos => if sc.names.lookup id == some .local && pos.line == (ts.head?.map (·.pos.line)).getD 0 then some id else none
      | _ => none))
theorem swS_ok {ts vs : List Expr} {kt k2 : Nat} {pt pt2 : Pos} {env : PySem.Env} {r : Option (List Str)} (h : swS env.scope ts vs = some r) : swappedStores [.Tuple ts kt pt] (.Tuple vs k2 pt2) env = pure r := by
  unfold swappedStores
  unfold swS at h
  dsimp only
  split at h
  · rename_i c
    cases h
    exact if_pos c
  · rename_i c
    refine (if_neg c).trans ?_
    split at h
    · rename_i c2
      cases h
      exact if_pos c2
    · rename_i c2
      refine (if_neg c2).trans ?_
      split at h
      · rename_i c3
        cases h
        exact if_pos c3
      · rename_i c3
        refine (if_neg c3).trans ?_
        split at h
        · rename_i c4
          cases h
          exact if_pos c4
        · rename_i c4
          refine (if_neg c4).trans ?_
          split at h
          · cases h
          · rename_i c5
            cases h
            exact if_neg c5

abbrev RecS := List Stmt → Option C
def cItem (rec : Rec) (E : CE) : Expr → Option C
  | .Tuple es kk p => if es.any isEmptyL && es.all notStar then (rec E (.lo es)).map .own else (rec E (.o (.Tuple es kk p))).map .fr
  | b => (rec E (.o b)).map .fr
def okFld (E : CE) (f : Str) : List Str := E.exs.filterMap fun q => if E.exs.lookup q.1 == some f then some q.1 else none
def cMeth (rec : Rec) (E : CE) (a : Expr) (m : Str) (b : Expr) : Option C :=
  if m == ("append" : Str) then (E.path 20 a).bind fun q => (cItem rec E b).map fun c => .app q.1 q.2 c
  else if m == ("extend" : Str) then match a with
    | .Name x _ => (E.var x).bind fun i => (rec E (.o b)).map fun c => .ext i c
    | _ => none
  else none
def cSet (rec : Rec) (E : CE) (x : Str) (px : Pos) (e : Expr) : Option C := (E.sto x).bind fun i => match e with
  | .ListComp elt [⟨tg, iter, ifs, 0⟩] scope pos => if swSet E.sc x px scope pos then (if E.sc.names.lookup x == some .local then (rec E (.o (.ListComp elt [⟨tg, iter, ifs, 0⟩] scope pos))).map fun c => .set i c else none) else (rec E (.o (.ListComp elt [⟨tg, iter, ifs, 0⟩] scope pos))).map fun c => .set i c
  | .ListComp elt [⟨tg, iter, ifs, 0⟩, ⟨tg1, iter1, ifs1, 0⟩] scope pos => if swSet E.sc x px scope pos then none else (rec E (.o (.ListComp elt [⟨tg, iter, ifs, 0⟩, ⟨tg1, iter1, ifs1, 0⟩] scope pos))).map fun c => .set i c
  | e => if notComp e then (rec E (.o e)).map fun c => .set i c else none
def cTup (rec : Rec) (E : CE) (ts : List Expr) (kt : Nat) (pt : Pos) : Expr → Option C
  | .Tuple vs k2 pt2 => match swS E.sc ts vs with
    | some none => if vs.all notStar then (E.stos ts).bind fun js => (rec E (.lo vs)).map fun c => .tgtO js (.own c) else none
    | some (some _) => match ts, vs with
      | [.Name x px, .Name y py], [e1, e2] => if swS E.sc [.Name x px, .Name y py] [e1, e2] == some (some [x, y]) && E.sc.names.lookup x == some .local && E.sc.names.lookup y == some .local && notStar e1 && notStar e2 then
          (ixOf x E.N).bind fun i => (ixOf y E.N).bind fun j => if i == j then none else (rec E (.o e1)).bind fun c1 => (rec E (.o e2)).map fun c2 => .par i j c1 c2
        else none
      | _, _ => none
    | none => none
  | e => if notComp e && notTup e then (E.tg (.Tuple ts kt pt)).bind fun t => (rec E (.o e)).map fun c => .tgt t c else none
def cSt (rec : Rec) (recS : RecS) (E : CE) : Stmt → Option C
  | .Expr (.Constant (.str _) _ _) _ => some .skip
  | .Expr (.Call (.Attribute a m apos) [b] [] cpos) _ => if lineOk apos cpos && baseOk a && notStar b && (m == ("append" : Str) || m == ("extend" : Str)) then cMeth rec E a m b else (rec E (.o (.Call (.Attribute a m apos) [b] [] cpos))).map .drop
  | .Expr e _ => if notComp e then (rec E (.o e)).map .drop else none
  | .Assign [.Name x px] e _ => cSet rec E x px e
  | .Assign [.Tuple ts kt pt] e _ => cTup rec E ts kt pt e
  | .Assign [.Subscript (.Name x _) b _] e _ => if notComp e && notSlice b then (E.var x).bind fun i => (rec E (.o b)).bind fun k => (rec E (.o e)).map fun m => .setIx i k m else none
  | .Return none _ => some .retN
  | .Return (some e) _ => (rec E (.o e)).map .ret
  | .If t a b _ => (rec E (.b t)).bind fun t => (recS a).bind fun a => (recS b).map fun b => .ifS t a b
  | .For tg iter body [] _ => (rec E (.i tg iter)).bind fun it => (E.tg tg).bind fun t => (recS body).map fun b => .for it t b
  | .While t body [] _ => (rec E (.b t)).bind fun t => (recS body).map fun b => .while t b
  | .Raise (some (.Call (.Name x _) [e] [] _)) none _ => if E.glob x && notStar e && (E.exs.lookup x).isSome then (rec E (.o e)).map fun m => .raise x m else none
  | .Try body [.ExceptHandler (some (.Name cn _)) (some n) [.Assign [.Name y _] (.Attribute (.Name n2 _) f _) _] _] [] [] _ =>
    if n2 == n && okNm n && E.glob cn && E.sc.names.lookup n == some .local && E.sc.names.lookup y == some .local then
      (E.subs.lookup cn).bind fun sub => (ixOf n E.N).bind fun i => (ixOf y E.N).bind fun j => (recS body).map fun b => .tryF b sub (okFld E f) i j
    else none
  | .Pass _ => some .skip
  | .Break _ => some .brk
  | .Continue _ => some .ct
  | _ => none
def cs : Nat → CE → RecS
  | 0, _, _ => none
  | _ + 1, _, [] => some .skip
  | n + 1, E, s :: r => (cSt (cc 60) (cs n E) E s).bind fun a => (cs n E r).map fun b => .seqS a b

structure GoodS (T : Tab) (den : Den) (W : WX) (E : CE) (k : Nat) (X : Cx) : Prop where
  e : GoodE T den W E k X
  own : PassesOwn (model X.prog X.w) X.A X.env X.xe
  stk : X.stack = X.env :: X.outer
  frm : X.env.frame = some X.env.locals
  k2 : 2 ≤ k
  exs : ∀ x f, E.exs.lookup x = some f → ∃ Ca, ExcK X.K X.mg Ca x f ∧ T.ca x = some Ca ∧ T.fld x = f
  subs : ∀ cn l, E.subs.lookup cn = some l → ∃ c, X.mg cn = some c ∧ ∀ c1 Ca b, T.ca c1 = some Ca → l.lookup c1 = some b → PySem.W.exmOne X.K (.ref Ca) c = some b
theorem GoodS.tr {T : Tab} {den : Den} {W : WX} {E : CE} {k : Nat} {X : Cx} (g : GoodS T den W E k X) {W' : WX} {pn : List (Addr × Obj)} {xe : Value → Shared → Prop} (tk : L2N.Takes (X.tr pn xe) W') (own : PassesOwn (model X.prog X.w) X.A X.env xe) : GoodS T den W' E k (X.tr pn xe) :=
  ⟨⟨g.e.hN, g.e.nd, g.e.sc, g.e.calm, g.e.room, g.e.grd, g.e.sto, g.e.blt, g.e.fns, g.e.con, g.e.tab, tk⟩, own, g.stk, g.frm, g.k2, g.exs, g.subs⟩
section
variable {T : Tab} {den : Den} {W : WX} {E : CE} {k : Nat} {X : Cx} {rec : Rec} {recS : RecS}
abbrev IHSs (T : Tab) (den : Den) (k : Nat) (E : CE) (recS : RecS) : Prop := ∀ (b : List Stmt) (c : C) (W : WX) (X : Cx), GoodS T den W E k X → recS b = some c → PSs X b (tS T X.K W (mean den c).s)
theorem item_ok (IH : IHs T den k rec) {b : Expr} {c : C} (g : GoodE T den W E k X) (h : cItem rec E b = some c) : PE X b (tO T X.K W (mean den c).o) := by
  unfold cItem at h
  split at h
  · split at h
    · rw [Option.map_eq_some_iff] at h
      obtain ⟨c1, h1, rfl⟩ := h
      exact so_tup (IH (.lo _) c1 W E X g h1)
    · rw [Option.map_eq_some_iff] at h
      obtain ⟨c1, h1, rfl⟩ := h
      exact se_fr (IH (.o _) c1 W E X g h1)
  · rw [Option.map_eq_some_iff] at h
    obtain ⟨c1, h1, rfl⟩ := h
    exact se_fr (IH (.o _) c1 W E X g h1)
theorem mcall_ok {a b : Expr} {m : Str} {apos cpos pos : Pos} (s1 : lineOk apos cpos = true) (s2 : baseOk a = true) (s3 : notStar b = true) : MCall X a b m apos cpos pos :=
  ⟨base_ok s2 _ _, by rw [star_one s3]; rfl, s1, star_one s3, rfl⟩
theorem meth_ok (IH : IHs T den k rec) {a b : Expr} {m : Str} {apos cpos pos : Pos} {c : C} (g : GoodE T den W E k X) (s1 : lineOk apos cpos = true) (s2 : baseOk a = true) (s3 : notStar b = true) (h : cMeth rec E a m b = some c) :
    PS X (.Expr (.Call (.Attribute a m apos) [b] [] cpos) pos) (tS T X.K W (mean den c).s) := by
  unfold cMeth at h
  split at h
  · rename_i e
    rw [beq_iff_eq] at e
    subst e
    simp only [Option.bind_eq_some_iff, Option.map_eq_some_iff] at h
    obtain ⟨⟨i, p⟩, h1, c1, h2, rfl⟩ := h
    exact ss_app (path_at g h1).2 (item_ok IH g h2) (mcall_ok s1 s2 s3)
  · split at h
    · rename_i e
      rw [beq_iff_eq] at e
      subst e
      split at h
      · simp only [Option.bind_eq_some_iff, Option.map_eq_some_iff] at h
        obtain ⟨i, h1, c1, h2, rfl⟩ := h
        obtain ⟨a1, a2, a3, a4⟩ := var_at g h1
        exact ss_ext a1 a2 a3 a4 (IH (.o b) c1 W E X g h2) (mcall_ok s1 s2 s3)
      · cases h
    · cases h
theorem set_ok (n : Nat) {x : Str} {px pos : Pos} {e : Expr} {c : C} (g : GoodE T den W E k X) (h : cSet (cc (n + 1)) E x px e = some c) : PS X (.Assign [.Name x px] e pos) (tS T X.K W (mean den c).s) := by
  unfold cSet at h
  simp only [Option.bind_eq_some_iff] at h
  obtain ⟨i, h1, h⟩ := h
  have nm := sto_at g h1
  have nd : X.N.Nodup := by rw [g.hN]; exact g.nd
  split at h
  · rename_i elt tg iter ifs scope lpos
    split at h
    · rename_i hs
      split at h
      · rename_i hl
        rw [Option.map_eq_some_iff] at h
        obtain ⟨c1, h2, rfl⟩ := h
        have h2 : cLc (cc n) E elt tg iter ifs scope = some c1 := h2
        obtain ⟨it, t, cond, el, rfl, _, i1, B, parts, i2, h8⟩ := lc_ok (pos := lpos) (cc_ok n) g h2
        refine ps_imp (ps_setLc g.calm nd nm.ix (by rw [g.sc]; exact beq_iff_eq.mp hl) (by rw [sw_lc, g.sc, hs]) i1 B (fun s H Ca cl fp => (parts s H Ca cl fp).1) (fun s H Ca cl fp => (parts s H Ca cl fp).2.1) (fun s H Ca cl fp => (parts s H Ca cl fp).2.2) (i2 _)) ?_
        exact asg_imp (m := (mean den (.lc it (ownI E.N scope) t cond el)).o) fun σ H Q h => lc_imp h8 σ H Q h
      · cases h
    · rename_i hs
      rw [Option.map_eq_some_iff] at h
      obtain ⟨c1, h2, rfl⟩ := h
      exact ss_set nd nm (cc_ok (n + 1) (.o _) c1 W E X g h2) (by rw [sw_lc, g.sc, Bool.eq_false_iff.mpr hs])
  · split at h
    · cases h
    · rename_i hs
      rw [Option.map_eq_some_iff] at h
      obtain ⟨c1, h2, rfl⟩ := h
      exact ss_set nd nm (cc_ok (n + 1) (.o _) c1 W E X g h2) (by rw [sw_lc, g.sc, Bool.eq_false_iff.mpr hs])
  · split at h
    · rename_i hs
      rw [Option.map_eq_some_iff] at h
      obtain ⟨c1, h2, rfl⟩ := h
      exact ss_set nd nm (cc_ok (n + 1) (.o _) c1 W E X g h2) (sw_name hs _ _ _ _)
    · cases h
theorem stosO_at (g : GoodE T den W E k X) : ∀ {es : List Expr} {js : List Nat}, E.stos es = some js → PGs X es (tGsO X.K js) ∧ (assignEach es X.env).length = js.length ∧ (assignEach es X.env).findIdx? (·.1) = none
  | [], js, h => by cases h; exact ⟨sgso_nil, rfl, rfl⟩
  | e :: es, js, h => by
    cases e with
    | Name x p =>
      have h : (E.sto x).bind (fun i => (E.stos es).map (i :: ·)) = some js := h
      simp only [Option.bind_eq_some_iff, Option.map_eq_some_iff] at h
      obtain ⟨i, h1, l, h2, rfl⟩ := h
      obtain ⟨k1, k2, k3⟩ := stosO_at g h2
      refine ⟨sgso_cons (by rw [g.hN]; exact g.nd) (sto_at g h1) k1, ?_, ?_⟩
      · show (assignEach es X.env).length + 1 = _
        rw [k2]; rfl
      · show List.findIdx? (·.1) ((false, assign (.Name x p) X.env) :: assignEach es X.env) = none
        rw [List.findIdx?_cons]
        simp only [Bool.false_eq_true, if_false]
        rw [k3]; rfl
    | _ => cases h
theorem tup_ok (IH : IHs T den k rec) {ts : List Expr} {kt : Nat} {pt pos : Pos} {e : Expr} {c : C} (g : GoodE T den W E k X) (h : cTup rec E ts kt pt e = some c) : PS X (.Assign [.Tuple ts kt pt] e pos) (tS T X.K W (mean den c).s) := by
  unfold cTup at h
  split at h
  · split at h
    · rename_i hw
      split at h
      · simp only [Option.bind_eq_some_iff, Option.map_eq_some_iff] at h
        obtain ⟨js, h1, c1, h2, rfl⟩ := h
        obtain ⟨k1, k2, k3⟩ := stosO_at g h1
        exact ss_tgtO g.calm (so_tup (IH (.lo _) c1 W E X g h2)) k1 k2 k3 rfl (swS_ok (by rw [g.sc]; exact hw)) rfl
      · cases h
    · split at h
      · split at h
        · rename_i hs
          simp only [Bool.and_eq_true, beq_iff_eq] at hs
          obtain ⟨⟨⟨⟨s1, s2⟩, s3⟩, s4⟩, s5⟩ := hs
          simp only [Option.bind_eq_some_iff] at h
          obtain ⟨i, h1, j, h2, h⟩ := h
          split at h
          · cases h
          · rename_i hne
            simp only [Option.bind_eq_some_iff, Option.map_eq_some_iff] at h
            obtain ⟨c1, h3, c2, h4, rfl⟩ := h
            have hij : i ≠ j := fun z => hne (by rw [z]; exact beq_self_eq_true j)
            exact ss_par g.calm (by rw [g.hN]; exact g.nd) (by rw [g.hN]; exact ixOf_at h1) (by rw [g.hN]; exact ixOf_at h2) hij (by rw [g.sc]; exact s2) (by rw [g.sc]; exact s3) (IH (.o _) c1 W E X g h3) (IH (.o _) c2 W E X g h4) (star_cons s4) (star_one s5) (swS_ok (by rw [g.sc]; exact s1)) rfl
        · cases h
      · cases h
    · cases h
  · split at h
    · rename_i hs
      rw [Bool.and_eq_true] at hs
      simp only [Option.bind_eq_some_iff, Option.map_eq_some_iff] at h
      obtain ⟨t, h1, c1, h2, rfl⟩ := h
      exact ss_tgt (IH (.o _) c1 W E X g h2) (tg_at g h1 fun j hj => hj) (sw_sole hs.1 _ _) (st_tup hs.2 _) rfl
    · cases h
theorem okFld_at {E : CE} {f c1 : Str} (h : (okFld E f).contains c1 = true) : E.exs.lookup c1 = some f := by
  unfold okFld at h
  obtain ⟨q, _, hq⟩ := List.mem_filterMap.mp (List.contains_iff_mem.mp h)
  split at hq
  · rename_i e
    cases hq
    exact beq_iff_eq.mp e
  · cases hq
theorem asg_ix {x : Str} {p1 tpos : Pos} {b : Expr} (h : notSlice b = true) (env : PySem.Env) (v : Value) : assign (.Subscript (.Name x p1) b tpos) env v = (do
      let ov <- holding [v] (eval (.Name x p1) env)
      let iv <- holding [v, ov] (eval b env)
      standAt tpos
      holding [v, ov, iv] (setItem ov iv v)
      release [v, ov, iv] []) := by
  cases b <;> first | rfl | cases h
theorem st_ok (n : Nat) (IHS : IHSs T den k E recS) {st : Stmt} {c : C} (g : GoodS T den W E k X) (h : cSt (cc (n + 1)) recS E st = some c) : PS X st (tS T X.K W (mean den c).s) := by
  have IH : IHs T den k (cc (n + 1)) := cc_ok (n + 1)
  have ge := g.e
  unfold cSt at h
  split at h
  · cases h; exact ss_doc
  · split at h
    · rename_i hs
      simp only [Bool.and_eq_true] at hs
      exact meth_ok IH ge hs.1.1.1 hs.1.1.2 hs.1.2 h
    · rw [Option.map_eq_some_iff] at h
      obtain ⟨c1, h1, rfl⟩ := h
      exact ss_drop (IH (.o _) c1 W E X ge h1) rfl
  · split at h
    · rename_i hs
      rw [Option.map_eq_some_iff] at h
      obtain ⟨c1, h1, rfl⟩ := h
      exact ss_drop (IH (.o _) c1 W E X ge h1) (sw_none hs _ _)
    · cases h
  · exact set_ok n ge h
  · exact tup_ok IH ge h
  · split at h
    · rename_i hs
      rw [Bool.and_eq_true] at hs
      simp only [Option.bind_eq_some_iff, Option.map_eq_some_iff] at h
      obtain ⟨i, h1, c1, h2, c2, h3, rfl⟩ := h
      obtain ⟨a1, a2, a3, a4⟩ := var_at ge h1
      exact ss_setIx a1 a2 a3 a4 (se_fz (IH (.o _) c1 W E X ge h2)) (IH (.o _) c2 W E X ge h3) (sw_sole hs.1 _ _) (st_sub _ _) rfl fun v => asg_ix hs.2 _ v
    · cases h
  · cases h; exact ss_retN
  · rw [Option.map_eq_some_iff] at h
    obtain ⟨c1, h1, rfl⟩ := h
    exact ss_ret (IH (.o _) c1 W E X ge h1)
  · simp only [Option.bind_eq_some_iff, Option.map_eq_some_iff] at h
    obtain ⟨c1, h1, c2, h2, c3, h3, rfl⟩ := h
    exact ss_if (IH (.b _) c1 W E X ge h1) (IHS _ c2 W X g h2) (IHS _ c3 W X g h3)
  · simp only [Option.bind_eq_some_iff, Option.map_eq_some_iff] at h
    obtain ⟨c1, h1, t, h2, c3, h3, rfl⟩ := h
    obtain ⟨i1, i2⟩ := IH (.i _ _) c1 W E X ge h1
    exact ss_for g.own ge.calm i1 (tg_at ge h2 fun j hj => hj) (IHS _ c3 W X g h3) (i2 _)
  · simp only [Option.bind_eq_some_iff, Option.map_eq_some_iff] at h
    obtain ⟨c1, h1, c3, h3, rfl⟩ := h
    exact ss_while g.own (IH (.b _) c1 W E X ge h1) (IHS _ c3 W X g h3)
  · split at h
    · rename_i hs
      simp only [Bool.and_eq_true] at hs
      obtain ⟨⟨s1, s2⟩, s3⟩ := hs
      rw [Option.map_eq_some_iff] at h
      obtain ⟨c1, h1, rfl⟩ := h
      obtain ⟨f, hf⟩ := Option.isSome_iff_exists.mp s3
      obtain ⟨Ca, EK, hT, hfl⟩ := g.exs _ f hf
      obtain ⟨g1, g2, _⟩ := glob_at ge s1
      exact ss_raise ge.calm ge.tk (ge.room.mono g.k2) EK hT hfl g1 g2 (IH (.o _) c1 W E X ge h1) (star_one s2)
    · cases h
  · split at h
    · rename_i hs
      simp only [Bool.and_eq_true, beq_iff_eq] at hs
      obtain ⟨⟨⟨⟨s1, s2⟩, s3⟩, s4⟩, s5⟩ := hs
      subst s1
      simp only [Option.bind_eq_some_iff, Option.map_eq_some_iff] at h
      obtain ⟨sub, h1, i, h2, j, h3, c1, h4, rfl⟩ := h
      obtain ⟨cv, m1, hsub⟩ := g.subs _ _ h1
      obtain ⟨n1, n2, _⟩ := okNm_iff s2
      obtain ⟨g1, g2, _⟩ := glob_at ge s3
      refine ss_tryF ge.calm g.stk g.frm (by rw [ge.hN]; exact ge.nd) (by rw [ge.hN]; exact ixOf_at h2) (by rw [ge.sc]; exact s4) ⟨g1, g2, .inl m1⟩ ge.tk (by rw [ge.hN]; exact ixOf_at h3) (by rw [ge.sc]; exact s5) (fun W' pn xe tk own => IHS _ c1 W' _ (g.tr tk own) h4) hsub (fun c1 Ca hca hok => ?_) n1 n2 rfl
      obtain ⟨Ca2, EK, hT, hfl⟩ := g.exs _ _ (okFld_at hok)
      rw [hca] at hT
      cases hT
      exact ⟨hfl, EK.xf, EK.nof⟩
    · cases h
  · cases h; exact ss_pass
  · cases h; exact ss_brk
  · cases h; exact ss_ct
  · cases h
theorem cs_ok : ∀ n : Nat, IHSs T den k E (cs n E)
  | 0 => fun _ _ _ _ _ h => by cases h
  | n + 1 => fun b c W X g h => by
    cases b with
    | nil => cases h; exact ss_nil
    | cons s r =>
      have h : (cSt (cc 60) (cs n E) E s).bind (fun a => (cs n E r).map fun b => C.seqS a b) = some c := h
      simp only [Option.bind_eq_some_iff, Option.map_eq_some_iff] at h
      obtain ⟨c1, h1, c2, h2, rfl⟩ := h
      exact ss_cons (st_ok 59 (cs_ok n) g h1) (cs_ok n _ c2 W X g h2)
end
end MP

set_option Elab.async false
set_option linter.all false
set_option maxRecDepth 100000
set_option maxHeartbeats 8000000
namespace MP
open PySem PySem.Spec PyProof.Rows L2

section
variable {K : PySem.W.Frag} {g : Gh} {G H G' H' : Hp} {F0 : Addr → Prop} {env e : Env} {σ : L2.St} {ts : Tmp} {fp : Ix → List Addr} {vs : List V} {os : List O}
theorem Stt.pad (S : Stt K ⟨G, H, F0, vs.map some⟩ G' H' (os.map some) (vs.map some) ts fp) (m : Nat) :
    ∃ fp', Stt K ⟨G, H, F0, vs.map some⟩ G' H' (os.map some ++ List.replicate m none) (vs.map some ++ List.replicate m none) ts fp' := by
  have hl : vs.length = os.length := by have := S.len; simpa using this
  have back : ∀ (i : Nat) (o : O), (os.map some ++ List.replicate m none)[i]? = some (some o) → i < os.length ∧ (os.map some)[i]? = some (some o) := fun i o h => by
    by_cases q : i < os.length
    · refine ⟨q, ?_⟩
      rw [List.getElem?_append_left (by rw [List.length_map]; exact q)] at h
      exact h
    · rw [List.getElem?_append_right (by rw [List.length_map]; omega), List.getElem?_replicate] at h
      split at h
      · cases h
      · cases h
  refine S.reV id (fun _ _ h => h) (by simp [hl]) (fun i o h => ?_) (fun ix o v h => ?_) fun j x _ h => ?_
  · obtain ⟨q, h⟩ := back i o h
    obtain ⟨v, hv⟩ := S.has i o h
    exact ⟨v, by rw [List.getElem?_append_left (by rw [List.length_map]; omega)]; exact hv⟩
  · cases ix with
    | t j => exact .inl h
    | s j =>
      obtain ⟨h1, h2⟩ := att_of h
      obtain ⟨q, h1⟩ := back j o h1
      rw [List.getElem?_append_left (by rw [List.length_map]; omega)] at h2
      exact .inl (att_is h1 h2)
  · have q := (List.getElem?_eq_some_iff.mp h).1
    rw [List.getElem?_append_left q]
    exact h
theorem Stt.cut (S : Stt K ⟨G, H, F0, vs.map some⟩ G' H' e σ ts fp) (h8 : vs.length ≤ 8) : ∃ fp', Stt K ⟨G, H, F0, vs.map some⟩ G' H' (e.take vs.length) (vs.map some) ts fp' := by
  have kp : ∀ j v, vs[j]? = some v → σ[j]? = some (some v) := fun j v h => by
    have hj := (List.getElem?_eq_some_iff.mp h).1
    exact S.kp j (some v) (by omega) (by show (vs.map some)[j]? = _; rw [List.getElem?_map, h]; rfl)
  have hlen : vs.length ≤ e.length := by
    rw [← S.len]
    by_cases q : vs.length ≤ σ.length
    · exact q
    · have h0 : σ.length < vs.length := by omega
      have := kp σ.length vs[σ.length] (List.getElem?_eq_getElem h0)
      rw [List.getElem?_eq_none (Nat.le_refl _)] at this
      cases this
  have back : ∀ (i : Nat) (o : O), (e.take vs.length)[i]? = some (some o) → ∃ v, e[i]? = some (some o) ∧ (vs.map some)[i]? = some (some v) ∧ σ[i]? = some (some v) := fun i o h => by
    rw [List.getElem?_take] at h
    split at h
    · rename_i q
      refine ⟨vs[i], h, by rw [List.getElem?_map, List.getElem?_eq_getElem q]; rfl, kp i _ (List.getElem?_eq_getElem q)⟩
    · cases h
  refine S.reV id (fun _ _ h => h) (by simp; omega) (fun i o h => ?_) (fun ix o v h => ?_) fun j x _ h => h
  · obtain ⟨v, _, h2, _⟩ := back i o h
    exact ⟨v, h2⟩
  · cases ix with
    | t j => exact .inl h
    | s j =>
      obtain ⟨h1, h2⟩ := att_of h
      obtain ⟨w, h3, h4, h5⟩ := back j o h1
      rw [h2] at h4
      cases h4
      exact .inl (att_is h3 h5)
end

noncomputable def denF (den : Den) (c : C) (n m : Nat) (os : List O) : FOut :=
  if os.length = n then match (mean den c).s (os.map some ++ List.replicate m none) with
    | .ok .nx e => .ok (.val .none) (e.take n)
    | .ok (.ret o) e => .ok o (e.take n)
    | .ok _ _ => .no
    | .exc x e => .exc x (e.take n)
    | .no => .no
  else .no
structure FE where
  name : Str
  ps : List Str
  df : List D
  N : List Str
  code : C
noncomputable def denT (tab : List FE) : Nat → Den
  | 0 => fun _ _ => .no
  | n + 1 => fun f os => match tab.find? fun fe => fe.name == f with
    | some fe => denF (denT tab n) fe.code fe.ps.length (fe.N.length - fe.ps.length) os
    | none => .no
/-- what the text's top holds -/
structure GE where
  con : List (Str × D)
  tab : List (Str × List (Str × D))
  exs : List (Str × Str)
  subs : List (Str × List (Str × Bool))
def fnsOf (tab : List FE) : List (Str × Nat × List D) := tab.map fun fe => (fe.name, fe.ps.length, fe.df)
def ceOf (tab : List FE) (ge : GE) (N : List Str) (sc : Scope) : CE := { N := N, sc := sc, st := sc.names, fns := fnsOf tab, con := ge.con, tab := ge.tab, exs := ge.exs, subs := ge.subs }
theorem fns_at {tab : List FE} {x : Str} {n : Nat} {df : List D} (h : (fnsOf tab).lookup x = some (n, df)) : ∃ fe ∈ tab, (tab.find? fun fe => fe.name == x) = some fe ∧ fe.name = x ∧ fe.ps.length = n ∧ fe.df = df := by
  induction tab with
  | nil => cases h
  | cons fe r ih =>
    have h : (((fe.name, fe.ps.length, fe.df) :: fnsOf r).lookup x) = some (n, df) := h
    rw [List.lookup_cons] at h
    by_cases q : x = fe.name
    · subst q
      rw [beq_self_eq_true] at h
      cases h
      exact ⟨fe, List.mem_cons_self, by rw [List.find?_cons, beq_self_eq_true], rfl, rfl, rfl⟩
    · have q1 : (x == fe.name) = false := by rw [beq_eq_false_iff_ne]; exact q
      have q2 : (fe.name == x) = false := by rw [beq_eq_false_iff_ne]; exact fun z => q z.symm
      rw [q1] at h
      obtain ⟨fe2, h1, h2, h3⟩ := ih h
      exact ⟨fe2, List.mem_cons_of_mem _ h1, by rw [List.find?_cons, q2]; exact h2, h3⟩
/-- a function as it stands behind the top -/
structure FnAt (K : PySem.W.Frag) (mg : Str → Option Value) (tab : List FE) (ge : GE) (fe : FE) (st : Stmt) (f : Addr) (fd : FuncData) (dvs : List V) (ds : List Value) : Prop where
  g : mg fe.name = some (.ref f)
  kp : PySem.W.keepIn K (.ref f) = true
  ex : ∃ (nm qual : Str) (oc : Value) (od : Option Addr) (dV kV doc pm : Value) (an : Option Addr) (cdv ct : Value) (osl : Array (Option Value)),
    fd = PySem.W.fnOf nm qual (defArgs st) (defBody st) (defScope st) dV kV doc pm an cdv ct ∧ K.lookup f = some ⟨oc, od, .func fd, osl⟩ ∧ PySem.W.codeIn K cdv qual = true
  sc : FnScope fe.N fe.ps (defScope st)
  bd : Binds K fd fe.ps ds
  dv : Vals dvs ds
  dp : ∀ G, DpAll K G dvs fe.df
  np : fe.ps.length ≤ 8
  cm : cs 60 (ceOf tab ge fe.N (defScope st)) (defBody st) = some fe.code
/-- all of the text -/
structure TopAt (T : Tab) (w : World) (K : PySem.W.Frag) (mg : Str → Option Value) (tab : List FE) (ge : GE) : Prop where
  fn : ∀ fe ∈ tab, ∃ st f fd dvs ds, FnAt K mg tab ge fe st f fd dvs ds
  blt : ∀ x ∈ bltN, mg x = none
  con : ∀ x d, ge.con.lookup x = some d → ∃ u v, mg x = some u ∧ RelV v u ∧ ∀ G, Dp K G v d
  tab : ∀ x t, ge.tab.lookup x = some t → ∃ a, mg x = some (.ref a) ∧ KTab K w a t
  exs : ∀ x f, ge.exs.lookup x = some f → ∃ Ca, ExcK K mg Ca x f ∧ T.ca x = some Ca ∧ T.fld x = f
  subs : ∀ cn l, ge.subs.lookup cn = some l → ∃ c, mg cn = some c ∧ ∀ c1 Ca b, T.ca c1 = some Ca → l.lookup c1 = some b → PySem.W.exmOne K (.ref Ca) c = some b
section
variable {T : Tab} {P : Program} {w : World} {K : PySem.W.Frag} {mg : Str → Option Value} {base : Heap} {tab : List FE} {ge : GE}
theorem fnG_no {cx : CXT} {k : Nat} {f : Addr} {fd : FuncData} {ps : List Str} {den : List O → FOut} (h : ∀ os, den os = .no) : FnG P w K mg base cx k f fd ps (spF T K ps.length den) :=
  ⟨spF_len, fun _ _ _ _ _ _ _ _ _ _ _ _ _ _ q => by
    obtain ⟨_, _, _, os, _, _, q⟩ := q
    rw [h os] at q
    exact q.elim⟩
theorem fn_ok (A : TopAt T w K mg tab ge) : ∀ (n : Nat) (fe : FE), fe ∈ tab → (tab.find? fun x => x.name == fe.name) = some fe → ∀ st f fd dvs ds, FnAt K mg tab ge fe st f fd dvs ds →
    FnG P w K mg base (L2N.CX P w) (n + 2) f fd fe.ps (spF T K fe.ps.length (denT tab n fe.name))
  | 0, fe, _, _, _, _, _, _, _, _ => fnG_no fun _ => rfl
  | n + 1, fe, hm, hf, st, f, fd, dvs, ds, F => by
    obtain ⟨nm, qual, oc, od, dV, kV, doc, pm, an, cdv, ct, osl, rfl, lk, cd⟩ := F.ex
    refine fnG_of lk cd F.sc spF_len fun AA outer s H vs Q E room grd hsp => ?_
    have hps : fe.ps.length ≤ fe.N.length := by
      have := congrArg List.length F.sc.pre
      rw [List.length_take] at this
      omega
    have good : GoodS T (denT tab n) (fun cls d _ H => E cls d H) (ceOf tab ge fe.N (defScope st)) (n + 2) (cxOf (L2N.CX P w) P w K mg base fe.N qual (defScope st) f cdv AA outer s H E) := by
      refine ⟨⟨rfl, F.sc.nd, rfl, rfl, room, grd, fun x kd h => ⟨fun z => ?_, fun z => ⟨?_, rfl⟩⟩, A.blt, fun x m df h => ?_, A.con, A.tab, L2N.takes_of rfl rfl rfl rfl⟩, passes_of rfl, rfl, rfl, by omega, A.exs, A.subs⟩
      · subst z; exact h
      · subst z; exact h
      · obtain ⟨fe2, h1, h2, rfl, rfl, rfl⟩ := fns_at h
        obtain ⟨st2, f2, fd2, dvs2, ds2, F2⟩ := A.fn fe2 h1
        exact ⟨f2, fd2, fe2.ps, dvs2, ds2, F2.g, F2.kp, fn_ok A n fe2 h1 h2 _ _ _ _ _ F2, F2.bd, F2.dv, F2.dp⟩
    refine ⟨_, cs_ok (T := T) (den := denT tab n) 60 _ _ _ _ good F.cm, ?_⟩
    obtain ⟨hn, G, F0, os, fp, S, h⟩ := hsp
    have hos : os.length = fe.ps.length := by
      have := S.len
      simp at this
      omega
    obtain ⟨fp1, S1⟩ := S.pad (fe.N.length - fe.ps.length)
    refine ⟨_, G, _, [], fp1, (by show Stt _ _ _ _ _ (vs.map some ++ List.replicate (fe.N.length - vs.length) none) _ _; rw [hn]; exact S1), ?_⟩
    have h : (match denF (denT tab n) fe.code fe.ps.length (fe.N.length - fe.ps.length) os with
      | .ok o fin => ∀ v G' H' fp', Ex G G' → Stt K ⟨G, H, F0, vs.map some⟩ G' H' fin (vs.map some) [(o, v)] fp' → Q v H'
      | .exc x fin => ∀ cls d G' H' fp', Ex G G' → Stt K ⟨G, H, F0, vs.map some⟩ G' H' fin (vs.map some) [] fp' → XR T K G' H' x cls d → E cls d H'
      | .no => False) := by
      have e : denT tab (n + 1) fe.name os = denF (denT tab n) fe.code fe.ps.length (fe.N.length - fe.ps.length) os := by
        show (match tab.find? (fun x => x.name == fe.name) with | some fe => denF (denT tab n) fe.code fe.ps.length (fe.N.length - fe.ps.length) os | none => .no) = _
        rw [hf]
      rw [e] at h
      exact h
    unfold denF at h
    rw [if_pos hos] at h
    have h8 : vs.length ≤ 8 := by rw [hn]; exact F.np
    cases q : (mean (denT tab n) fe.code).s (os.map some ++ List.replicate (fe.N.length - fe.ps.length) none) with
    | no => rw [q] at h; exact h.elim
    | exc x e =>
      rw [q] at h
      intro σ cls d G' H' fp' z S' xr
      obtain ⟨fp2, S2⟩ := S'.cut h8
      rw [hn] at S2
      exact h cls d G' H' fp2 z S2 xr
    | ok fl e =>
      rw [q] at h
      cases fl with
      | brk => exact h.elim
      | ct => exact h.elim
      | nx =>
        intro σ G' H' fp' z S'
        obtain ⟨fp2, S2⟩ := S'.cut h8
        rw [hn] at S2
        obtain ⟨fp3, S3⟩ := S2.pushVal (d := .none) .non
        exact h .non G' H' fp3 z S3
      | ret o =>
        intro σ v G' H' fp' z S'
        obtain ⟨fp2, S2⟩ := S'.cut h8
        rw [hn] at S2
        exact h v G' H' fp2 z S2
end
end MP

set_option Elab.async false
set_option linter.all false
set_option maxRecDepth 100000
set_option maxHeartbeats 8000000
namespace MP
open PySem PySem.Spec PyProof.Rows L2

section
variable {T : Tab} {P : Program} {w : World} {K : PySem.W.Frag} {mg mb : Str → Option Value} {s : Shared} {a fa : Addr} {fd : FuncData} {x : Str} {den : List O → FOut} {vs : List Value} {ns : List Int} {k : Nat}
theorem rel_true {G : Hp} {H : Hp} {v : V} {F : List Addr} (r : RO K G H (.val (.bool true)) v F) : v = .bl true := by
  obtain ⟨_, d⟩ := ro_val r
  cases d
  rfl
theorem dp_ints {G : Hp} : ∀ ns : List Int, DpAll K G (ns.map V.int) (ns.map PyData.int)
  | [] => .nil
  | n :: ns => .cons (.int n) (dp_ints ns)
/-- from a heap in which at most the script is told of -/
theorem end_core {H : Hp} (KX : K.In s.heap) (hns : s.heap.Ns mainGlobals mg) (hb : s.heap.Ns builtinsNs mb) (hbb : ∀ x : Str, x ≠ "__name__" → mb x = bootBuiltins x) (hlim : s.heap.NoLimit) (hg : s.gens = #[])
    (ha : s.heap.get? a = some { cls := .type "list", data := .seq vs.toArray }) (hO : ∀ b u, H b = some u → b = a ∧ ∃ o xs, u = .frz o (.lst xs)) (hK : H a ≠ none → K.lookup a = none) (hS : SqL K H a (ns.map V.int)) (hok : HOk P w H s.heap)
    (hr : Room k callerA) (F : ∀ base : Heap, K.In base → base.Ns mainGlobals mg → FnG P w K mg base (L2N.CX P w) k fa fd [x] (spF T K 1 den)) (bd : BindsTo s fd ⟨[.ref a], []⟩ [(x, .ref a)])
    {fin : List (Option O)} (hden : den [.val (.list (ns.map PyData.int))] = .ok (.val (.bool true)) fin) :
    codeAny (model P w) callerA (.call (.ref fa) ⟨[.ref a], []⟩) (fun r t => r = .ok (.ret (.bool true)) ∧ OldK s.heap t.heap ∧ t.os = s.os ∧ AllBare t.gens) s := by
  have plain : ∀ {b : Addr} {o : Obj}, s.heap.get? b = some o → b ≠ a → H b = none := fun {b o} e n => by
    cases q : H b with
    | none => rfl
    | some u => exact absurd (hO b u q).1 n
  have base_get : ∀ {b : Addr} {o : Obj}, s.heap.get? b = some o → H b = none → (hidT s.heap H).get? b = some o := fun e n => hidT_get e n
  have ns_up : ∀ {b : Addr} {m : Str → Option Value}, s.heap.Ns b m → (hidT s.heap H).Ns b m := fun {b m} ⟨o, es, ep, e, d, r⟩ => ⟨o, es, ep, base_get e (plain e fun z => by
    rw [z, ha] at e
    cases e
    have d' : Data.seq vs.toArray _ = Data.dict es ep := d
    cases d'), d, r⟩
  have kin : K.In (hidT s.heap H) := fun b o e => base_get (KX b o e) (by
    cases q : H b with
    | none => rfl
    | some u =>
      have z := (hO b u q).1
      rw [z] at e q
      rw [hK (by rw [q]; simp)] at e
      cases e)
  obtain ⟨mc, lm1, lm2⟩ := hlim
  have md : Mod K mg (hidT s.heap H) := { kin := kin, glob := ns_up hns, blt := ⟨mb, ns_up hb, hbb⟩, nolimit := ⟨mc, ns_up lm1, lm2⟩ }
  have en : Env0 P w K mg (hidT s.heap H) callerA [] s H := { frames := rfl, mod := md, bs := fun b o e => of_hidT e, bsz := Nat.le_of_eq (hidT_size _ _), funs := trivial, frf := fun b z => absurd (show b ∈ ([] : List Addr) from z) (by simp), hok := hok, bare := .of_eq hg }
  have st : Stt K ⟨H, H, fun _ => False, ([.ref a] : List V).map some⟩ H H (([.val (.list (ns.map PyData.int))] : List O).map some) (([.ref a] : List V).map some) [] fun _ => [] := by
    refine ⟨rfl, fun i o e => ?_, Ex.refl H, fun ix o v e => ?_, fun _ => List.nodup_nil, fun _ _ _ z => absurd z List.not_mem_nil, fun _ _ z => absurd z List.not_mem_nil, fun _ _ e _ => e, fun _ e => e, Ex.refl H, fun _ e => .inl e, fun _ _ _ e => e⟩
    · cases i with
      | zero => exact ⟨.ref a, rfl⟩
      | succ n => simp at e
    · cases ix with
      | t j => exact absurd e (by show ([] : Tmp)[j]? ≠ _; simp)
      | s j =>
        obtain ⟨e1, e2⟩ := att_of e
        cases j with
        | zero => cases e1; cases e2; exact .val (.lst hS (dp_ints ns))
        | succ n => simp at e1
  refine codeAny_mono ((F _ kin (ns_up hns)).run callerA [] s H ⟨[.ref a], []⟩ [.ref a] [.ref a] (fun v _ => v = .bl true) (fun _ _ _ => False) hr rfl en bd (.cons rfl .nil) ⟨rfl, H, fun _ => False, _, _, st, ?_⟩) fun r t h => ?_
  · rw [hden]
    intro v G1 H1 fp1 _ S1
    exact rel_true (S1.rep (.t 0) _ v rfl)
  · cases r with
    | error e =>
      obtain ⟨_, _, _, _, _, _, _, _, _, _, _, _, z⟩ := (show L2N.CX P w [] H s (fun _ _ _ => False) e t from h)
      exact z.elim
    | ok fl =>
      cases fl with
      | next => exact False.elim h
      | brk => exact False.elim h
      | cont => exact False.elim h
      | ret u =>
        obtain ⟨v, H2, os, bare, un, hok2, rv, rfl⟩ := h
        obtain rfl : u = Value.bool true := rv
        refine ⟨rfl, OldK.of_keep fun b o e => ?_, os, bare⟩
        cases q : H b with
        | none => exact un.keep b o e q (by intro z; exact absurd (show b ∈ ([] : List Addr) from z) (by simp)) (by simp)
        | some u =>
          obtain ⟨_, ob, xs, rfl⟩ := hO b u q
          have e1 := (hok b _ q).1
          have e2 := (hok2 b _ (un.frzs b ob _ q)).1
          rw [e] at e1
          cases e1
          exact e2
theorem end_call (KX : K.In s.heap) (hns : s.heap.Ns mainGlobals mg) (hb : s.heap.Ns builtinsNs mb) (hbb : ∀ x : Str, x ≠ "__name__" → mb x = bootBuiltins x) (hlim : s.heap.NoLimit) (hg : s.gens = #[])
    (ha : s.heap.get? a = some { cls := .type "list", data := .seq vs.toArray }) (hi : IntsAre vs ns) (hl : ns.length ≤ sizeLine)
    (hr : Room k callerA) (F : ∀ base : Heap, K.In base → base.Ns mainGlobals mg → FnG P w K mg base (L2N.CX P w) k fa fd [x] (spF T K 1 den)) (bd : BindsTo s fd ⟨[.ref a], []⟩ [(x, .ref a)])
    {fin : List (Option O)} (hden : den [.val (.list (ns.map PyData.int))] = .ok (.val (.bool true)) fin) :
    codeAny (model P w) callerA (.call (.ref fa) ⟨[.ref a], []⟩) (fun r t => r = .ok (.ret (.bool true)) ∧ OldK s.heap t.heap ∧ t.os = s.os ∧ AllBare t.gens) s := by
  have rv := vals_ints hi
  have len := hi.length
  cases q : K.lookup a with
  | some o =>
    have e := KX a o q
    rw [ha] at e
    cases e
    exact end_core (H := fun _ => none) KX hns hb hbb hlim hg ha (fun b u z => by cases z) (fun z => absurd rfl z) (.inr ⟨_, vs.toArray, _, q, rfl, rfl, rfl, by rw [List.size_toArray, len]; exact hl, by simpa using rv⟩) (fun b u z => by cases z) hr F bd hden
  | none =>
    let H : Hp := fun b => if b = a then some (.frz { cls := .type "list", data := .seq vs.toArray } (.lst (ns.map V.int))) else none
    have Ha : H a = some (.frz { cls := .type "list", data := .seq vs.toArray } (.lst (ns.map V.int))) := if_pos rfl
    have only : ∀ b u, H b = some u → b = a ∧ u = .frz { cls := .type "list", data := .seq vs.toArray } (.lst (ns.map V.int)) := fun b u z => by
      by_cases e : b = a
      · rw [e, Ha] at z; cases z; exact ⟨e, rfl⟩
      · have z' : (if b = a then some (HO.frz { cls := .type "list", data := .seq vs.toArray } (.lst (ns.map V.int))) else none) = some u := z
        rw [if_neg e] at z'; cases z'
    refine end_core (H := H) KX hns hb hbb hlim hg ha (fun b u z => ⟨(only b u z).1, _, _, (only b u z).2⟩) (fun _ => q) (.inl (.inr ⟨_, Ha⟩)) (fun b u z => ?_) hr F bd hden
    obtain ⟨rfl, rfl⟩ := only b u z
    exact ⟨ha, by rw [List.length_map]; exact hl, vs, _, rv, ha⟩
end
/-- the goal behind k_head (case hc), from the meaning of the law's def -/
theorem walk_G {l : PySem.W.OpenLaw} {n k : Nat} {q : Program} {loose : List Str} {XP : (Str → Option Value) → Heap → Prop} {YP : World → Heap → Prop} {d : DefRec} {K : Params → PySem.W.Frag} {den : List O → FOut} {x : Str}
    (hn : l.most = some n) (hn2 : n ≤ sizeLine) (hdf : d.params.defaults = []) (hr : Room k callerA) (hY : ∀ (w : World) (h : Heap), YP w h → (K w.params).In h)
    (F : ∀ (w : World) (mg : Str → Option Value) (fa : Addr) (h : Heap), (K w.params).In h → h.Ns mainGlobals mg → mg d.name = some (.ref fa) →
      ∃ (T : Tab) (fd : FuncData), (∀ (s : Shared) (u : Value), (K w.params).In s.heap → BindsTo s fd ⟨[u], []⟩ [(x, u)]) ∧
        ∀ base : Heap, (K w.params).In base → base.Ns mainGlobals mg → FnG l.prog w (K w.params) mg base (L2N.CX l.prog w) k fa fd [x] (spF T (K w.params) 1 den))
    (hden : ∀ ns : List Int, ns.length ≤ n → ∃ fin, den [.val (.list (ns.map PyData.int))] = .ok (.val (.bool true)) fin) :
    PySem.W.WalkO q loose XP YP l.row.toRowW d [] (fun f vs => PySem.call f vs) :=
  Att.attach_call hn hdf fun w s₀ s₁ mg mb fa o pm cd doc a vs ns G Y ho hd hcd hmg hobj hints hlen hg => by
    have KX := hY w _ Y
    obtain ⟨T, fd, hb, hF⟩ := F w mg fa _ KX G.T.g hmg
    obtain ⟨fin, hf⟩ := hden ns hlen
    exact end_call KX G.T.g G.T.b G.T.builtins G.T.nolimit hg hobj hints (Nat.le_trans hlen hn2) hr hF (hb s₁ _ KX) hf
end MP

set_option Elab.async false
set_option linter.all false
set_option maxRecDepth 100000
set_option maxHeartbeats 8000000
namespace MP
open PySem PySem.Spec PyProof.Rows L2

/-- what the text alone says of a def -/
structure FnSt (tab : List FE) (ge : GE) (fe : FE) (st : Stmt) : Prop where
  sc : FnScope fe.N fe.ps (defScope st)
  np : fe.ps.length ≤ 8
  cm : cs 60 (ceOf tab ge fe.N (defScope st)) (defBody st) = some fe.code
/-- no defaults -/
structure FnPl (fe : FE) (st : Stmt) : Prop where
  df : fe.df = []
  bd : ∀ (kV doc pm : Value) (an : Option Addr) (cdv ct : Value) (us : List Value), us.length = fe.ps.length → bindArgs (PySem.W.fnOf fe.name fe.name (defArgs st) (defBody st) (defScope st) .none kV doc pm an cdv ct) ⟨us, []⟩ = pure (fe.ps.zip us)
/-- keyword-only parameters with a default, no others -/
structure FnKw (fe : FE) (st : Stmt) (n : Nat) (kws : List (Str × V)) : Prop where
  hk : kws ≠ []
  hn : n + kws.length = fe.ps.length
  df : ∀ (K : PySem.W.Frag) (G : Hp), DpAll K G (kws.map (·.2)) fe.df
  bd : ∀ (D : Addr) (doc pm : Value) (an : Option Addr) (cdv ct : Value) (us ks : List Value), us.length = n → ks.length = kws.length →
      KwChain D ((kws.map (·.1)).zip ks) (bindArgs (PySem.W.fnOf fe.name fe.name (defArgs st) (defBody st) (defScope st) .none (.ref D) doc pm an cdv ct) ⟨us, []⟩) (fe.ps.zip (us ++ ks))
def FnIn (K : PySem.W.Frag) (mg : Str → Option Value) (tab : List FE) (ge : GE) (fe : FE) : Prop := ∃ st f fd dvs ds, FnAt K mg tab ge fe st f fd dvs ds
section
variable {K : PySem.W.Frag} {h : Heap} {mg : Str → Option Value} {tab : List FE} {ge : GE} {fe : FE} {st : Stmt} {f : Addr} {oc kV doc pm cdv ct : Value} {od an : Option Addr} {osl : Array (Option Value)} {w : World} {T : Tab}
theorem fn_in (X : K.In h) (G : h.Ns mainGlobals mg) (S : FnSt tab ge fe st) (B : FnPl fe st) (a : PySem.W.nsIn K mainGlobals fe.name = some (some (.ref f)))
    (l : K.lookup f = some ⟨oc, od, .func (PySem.W.fnOf fe.name fe.name (defArgs st) (defBody st) (defScope st) .none kV doc pm an cdv ct), osl⟩) (c : PySem.W.codeIn K cdv fe.name = true) (k : PySem.W.keepIn K (.ref f) = true) : FnIn K mg tab ge fe :=
  ⟨st, f, _, [], [], { g := PySem.W.mg_of X G a, kp := k, ex := ⟨_, _, _, _, _, _, _, _, _, _, _, _, rfl, l, c⟩, sc := S.sc, bd := .all (B.bd kV doc pm an cdv ct), dv := .nil, dp := fun G => (by rw [B.df]; exact .nil), np := S.np, cm := S.cm }⟩
theorem fn_inK {n : Nat} {kws : List (Str × V)} {Da : Addr} (X : K.In h) (G : h.Ns mainGlobals mg) (S : FnSt tab ge fe st) (B : FnKw fe st n kws) (a : PySem.W.nsIn K mainGlobals fe.name = some (some (.ref f)))
    (l : K.lookup f = some ⟨oc, od, .func (PySem.W.fnOf fe.name fe.name (defArgs st) (defBody st) (defScope st) .none (.ref Da) doc pm an cdv ct), osl⟩) (c : PySem.W.codeIn K cdv fe.name = true) (k : PySem.W.keepIn K (.ref f) = true)
    (q : ∀ p ∈ kws, ∃ u, PySem.W.nsIn K Da p.1 = some (some u) ∧ RelV p.2 u) : FnIn K mg tab ge fe := by
  have F : FunD K fe.name fe.name (defArgs st) (defBody st) (defScope st) [] kws f (PySem.W.fnOf fe.name fe.name (defArgs st) (defBody st) (defScope st) .none (.ref Da) doc pm an cdv ct) :=
    ⟨⟨oc, od, .none, .ref Da, doc, pm, an, cdv, ct, osl, rfl, l, c, .inl ⟨rfl, rfl⟩, .inr ⟨Da, rfl, q⟩⟩, k⟩
  obtain ⟨ds, rd, bd⟩ := F.binds0 (ps := fe.ps) n B.hk B.hn B.bd
  exact ⟨st, f, _, kws.map (·.2), ds, { g := PySem.W.mg_of X G a, kp := k, ex := ⟨_, _, _, _, _, _, _, _, _, _, _, _, rfl, l, c⟩, sc := S.sc, bd := bd, dv := rd, dp := fun G => B.df K G, np := S.np, cm := S.cm }⟩
def ConAt (K : PySem.W.Frag) (mg : Str → Option Value) (q : Str × D) : Prop := ∃ u v, mg q.1 = some u ∧ RelV v u ∧ ∀ G, Dp K G v q.2
theorem con_int {x : Str} {i : Int} {t : Tok} (X : K.In h) (G : h.Ns mainGlobals mg) (a : PySem.W.nsIn K mainGlobals x = some (some (.int i t))) : ConAt K mg (x, .int i) := ⟨_, .int i, PySem.W.mg_of X G a, ⟨t, rfl⟩, fun _ => .int i⟩
theorem con_str {x z : Str} {t : Tok} (X : K.In h) (G : h.Ns mainGlobals mg) (a : PySem.W.nsIn K mainGlobals x = some (some (.str z t))) : ConAt K mg (x, .str z) := ⟨_, .str z, PySem.W.mg_of X G a, ⟨t, rfl⟩, fun _ => .str z⟩
theorem mem_of_at {β : Type} : ∀ {l : List (Str × β)} {x : Str} {b : β}, l.lookup x = some b → (x, b) ∈ l
  | [], _, _, h => by cases h
  | (y, c) :: r, x, b, h => by
    rw [List.lookup_cons] at h
    split at h
    · rename_i q
      rw [beq_iff_eq] at q
      cases h
      rw [q]
      exact List.mem_cons_self
    · exact List.mem_cons_of_mem _ (mem_of_at h)
def TabAt (K : PySem.W.Frag) (w : World) (mg : Str → Option Value) (q : Str × List (Str × D)) : Prop := ∃ a, mg q.1 = some (.ref a) ∧ KTab K w a q.2
def ExcAt (K : PySem.W.Frag) (mg : Str → Option Value) (T : Tab) (q : Str × Str) : Prop := ∃ Ca, ExcK K mg Ca q.1 q.2 ∧ T.ca q.1 = some Ca ∧ T.fld q.1 = q.2
def SubAt (K : PySem.W.Frag) (mg : Str → Option Value) (T : Tab) (q : Str × List (Str × Bool)) : Prop := ∃ c, mg q.1 = some c ∧ ∀ c1 Ca b, T.ca c1 = some Ca → q.2.lookup c1 = some b → PySem.W.exmOne K (.ref Ca) c = some b
theorem top_at (fn : ∀ fe ∈ tab, FnIn K mg tab ge fe) (blt : ∀ x ∈ bltN, mg x = none) (con : ∀ q ∈ ge.con, ConAt K mg q) (tb : ∀ q ∈ ge.tab, TabAt K w mg q) (exs : ∀ q ∈ ge.exs, ExcAt K mg T q) (subs : ∀ q ∈ ge.subs, SubAt K mg T q) : TopAt T w K mg tab ge where
  fn := fn
  blt := blt
  con := fun x d hx => con (x, d) (mem_of_at hx)
  tab := fun x t hx => tb (x, t) (mem_of_at hx)
  exs := fun x f hx => exs (x, f) (mem_of_at hx)
  subs := fun x l hx => subs (x, l) (mem_of_at hx)
/-- a class with an own __init__(self, f) that calls its base's -/
theorem exc_in {C B fI : Addr} {x b f nm q : Str} {N : Addr} {bs bm : List Value} {sn : List Str} {sub : List Value} {ab : Bool} {col : Option Bool} {dd : Option Addr} {m0 m1 m2 m3 m5 : Option Value} {qual : Str} {p1 p2 p3 p4 p5 p6 p7 p8 p9 p10 : Pos}
    (X : K.In h) (G : h.Ns mainGlobals mg)
    (hst : defBody st = [.Expr (.Call (.Attribute (.Name b p1) "__init__" p2) [.Name "self" p3, .Name f p4] [] p5) p6, .Assign [.Attribute (.Name "self" p7) f p8] (.Name f p9) p10])
    (S : FnScope ["self", f] ["self", f] (defScope st)) (hsf : (("self" : Str) == f) = false) (h1 : (defScope st).names.lookup ("self" : Str) = some NameKind.local) (h2 : (defScope st).names.lookup f = some NameKind.local) (hgb : (defScope st).names.lookup b = some NameKind.globalImplicit)
    (hdb : (b == ("__debug__" : Str)) = false) (hdf : (f == ("__debug__" : Str)) = false) (hcf : (f == ("__classdict__" : Str)) = false)
    (bd : ∀ (kV doc pm : Value) (an : Option Addr) (cdv ct : Value) (us : List Value), us.length = 2 → bindArgs (PySem.W.fnOf "__init__" qual (defArgs st) (defBody st) (defScope st) .none kV doc pm an cdv ct) ⟨us, []⟩ = pure ((["self", f] : List Str).zip us))
    (hev : ∀ env : PySem.Env, ∃ pl : Sem Bool, eval (.Call (.Attribute (.Name b p1) "__init__" p2) [.Name "self" p3, .Name f p4] [] p5) env = (eval (.Name b p1) env >>= fun ov => standAt p2.atName >>= fun _ => holding [ov] (getMethod ov "__init__" pl) >>= fun z => callWith p5 z.1 z.2 (backTo p5 (starEach [.Name "self" p3, .Name f p4] env)) (backToKw p5 (keywordEach [] env))))
    (aC : PySem.W.nsIn K mainGlobals x = some (some (.ref C))) (aB : PySem.W.nsIn K mainGlobals b = some (some (.ref B)))
    (xL : K.lookup C = some (excClassObj nm q C N bs bm true sn sub ab col dd m0 m1 m2 m3 m5 "ValueError.__new__")) (hbm : PySem.HandSPX.refsVE bm = true)
    (sa : PySem.W.findIn K (.ref C) "__setattr__" = some (some (.builtin "object.__setattr__"))) (eC : PySem.W.subIn K (.ref C) (.type "BaseException") = some true) (tC : PySem.W.typeIn K (.ref C) = some (.type "type")) (kC : PySem.W.keepIn K (.ref C) = true)
    (nof : PySem.W.findIn K (.ref C) f = some none) (ga : PySem.W.findIn K (.ref C) "__getattribute__" = some (some (.builtin "BaseException.__getattribute__"))) (gg : PySem.W.findIn K (.ref C) "__getattr__" = some none) (hC : PySem.W.hasDictIn K C = true)
    (i1 : PySem.W.findIn K (.ref C) "__init__" = some (some (.ref fI))) (t1 : PySem.W.typeIn K (.ref fI) = some (.type "function"))
    (lk : K.lookup fI = some ⟨oc, od, .func (PySem.W.fnOf "__init__" qual (defArgs st) (defBody st) (defScope st) .none kV doc pm an cdv ct), osl⟩) (code : PySem.W.codeIn K cdv qual = true)
    (hs : PySem.W.specialIn K (.ref B) "__getattribute__" = some (some (.builtin "type.__getattribute__"))) (hr : PySem.W.readsIn K B (.type "type") = true) (hf : PySem.W.findCls K (.ref B) (.type "type") "__init__" = some (.val (.builtin "ValueError.__init__"))) :
    ExcK K mg C x f := by
  have O : OexC K C := ⟨⟨nm, q, N, bs, bm, sn, sub, ab, col, dd, m0, m1, m2, m3, m5, xL, hbm⟩, sa, eC, tC, kC⟩
  refine ⟨PySem.W.mg_of X G aC, O, nof, ⟨ga, gg, eC, hC⟩, fun P w base cx Xb => ⟨fI, _, i1, t1, .all fun us hl => bd kV doc pm an cdv ct us hl, ?_⟩⟩
  rw [hst] at lk ⊢
  exact init_ok lk code S hsf h1 h2 hgb (PySem.W.mg_of X G aB) O nof hs hr hf hdb hdf hcf hev
theorem subs_of {c : Value} : ∀ (l : List (Str × Addr × Bool)), (∀ q ∈ l, PySem.W.exmOne K (.ref q.2.1) c = some q.2.2) → ∀ (c1 : Str) (Ca : Addr) (b : Bool), (l.map fun q => (q.1, q.2.1)).lookup c1 = some Ca → (l.map fun q => (q.1, q.2.2)).lookup c1 = some b → PySem.W.exmOne K (.ref Ca) c = some b
  | [], _, _, _, _, h, _ => by cases h
  | (y, C, d) :: r, hl, c1, Ca, b, h1, h2 => by
    have h1 : ((y, C) :: r.map fun q => (q.1, q.2.1)).lookup c1 = some Ca := h1
    have h2 : ((y, d) :: r.map fun q => (q.1, q.2.2)).lookup c1 = some b := h2
    rw [List.lookup_cons] at h1 h2
    split at h1
    · rename_i q
      rw [q] at h2
      cases h1
      cases h2
      exact hl _ List.mem_cons_self
    · rename_i q
      rw [q] at h2
      exact subs_of r (fun z hz => hl z (List.mem_cons_of_mem _ hz)) c1 Ca b h1 h2
theorem top_law {P : Program} {fa : Addr} {x : Str} (n : Nat) (A : TopAt T w K mg tab ge) (hm : fe ∈ tab) (hf : (tab.find? fun x => x.name == fe.name) = some fe) (hp : fe.ps = [x]) (hdf : fe.df = []) (hfa : mg fe.name = some (.ref fa)) :
    ∃ (T : Tab) (fd : FuncData), (∀ (s : Shared) (u : Value), K.In s.heap → BindsTo s fd ⟨[u], []⟩ [(x, u)]) ∧ ∀ base : Heap, K.In base → base.Ns mainGlobals mg → FnG P w K mg base (L2N.CX P w) (n + 2) fa fd [x] (spF T K 1 (denT tab n fe.name)) := by
  obtain ⟨st, f, fd, dvs, ds, F⟩ := A.fn fe hm
  have e := hfa.symm.trans F.g
  cases e
  have d0 := F.dp (fun _ => none)
  rw [hdf] at d0
  cases d0
  have rd := F.dv
  cases rd
  refine ⟨T, fd, fun s u Xs => ?_, fun base _ _ => ?_⟩
  · have b := F.bd s [u] Xs (by rw [hp]; rfl)
    rw [hp] at b
    exact b
  · have g := fn_ok (P := P) (base := base) A n fe hm hf _ _ _ _ _ F
    rw [hp] at g
    exact g
end
end MP

set_option Elab.async false
set_option linter.all false
set_option maxRecDepth 100000
set_option maxHeartbeats 4000000
namespace MP
open PySem PySem.Spec PyProof.Rows L2

/-- a comprehension without a condition over a state that stays -/
theorem lcGo_map {ws : List Nat} {tg : D → Env → Option Env} {cond : M Bool} {elt : M D} {e0 : Env} {f : D → D} (h4 : wipeE e0 ws = e0) : ∀ (ds : List D) (e : Env) (acc : List D), wipeE e ws = e0 → acc.length + ds.length ≤ sizeLine →
    (∀ d ∈ ds, ∃ e1 e3, tg d e0 = some e1 ∧ cond e1 = .ok true e1 ∧ elt e1 = .ok (f d) e3 ∧ wipeE e3 ws = e0) → ∃ e', lcGo ws tg cond elt ds e acc = .ok (acc ++ ds.map f) e' ∧ (e' = e ∨ e' = e0)
  | [], e, acc, _, _, _ => ⟨e, by rw [List.map_nil, List.append_nil]; rfl, .inl rfl⟩
  | d :: ds, e, acc, h, hl, hs => by
    obtain ⟨e1, e3, k1, k2, k3, k4⟩ := hs d List.mem_cons_self
    have hl2 : acc.length < sizeLine := by rw [List.length_cons] at hl; omega
    obtain ⟨e', r1, r2⟩ := lcGo_map (f := f) h4 ds e0 (acc ++ [f d]) h4 (by rw [List.length_append, List.length_singleton]; rw [List.length_cons] at hl; omega) fun d' hd => hs d' (List.mem_cons_of_mem _ hd)
    refine ⟨e', ?_, .inr (r2.elim id id)⟩
    show (match tg d (wipeE e ws) with
      | some e1 => match cond e1 with
        | .ok true e2 => match elt e2 with
          | .ok x e3 => if decide (acc.length < sizeLine) then lcGo ws tg cond elt ds (wipeE e3 ws) (acc ++ [x]) else .no
          | _ => .no
        | .ok false e2 => lcGo ws tg cond elt ds (wipeE e2 ws) acc
        | _ => .no
      | none => .no) = _
    rw [h, k1]
    dsimp only
    rw [k2]
    dsimp only
    rw [k3]
    dsimp only
    rw [if_pos (decide_eq_true hl2), k4, r1, List.map_cons, List.append_assoc]
    rfl
theorem mLc_map {it : Itm} {ws : List Nat} {tg : D → Env → Option Env} {cond : M Bool} {elt : M D} {e e0 : Env} {ds : List D} (f : D → D) (h1 : it e = .ok ds e) (h2 : ws.all (plainAt e) = true) (h3 : wipeE e ws = e0) (h4 : wipeE e0 ws = e0) (h5 : backE e e0 ws = e) (h6 : backE e e ws = e) (hl : ds.length ≤ sizeLine)
    (hs : ∀ d ∈ ds, ∃ e1 e3, tg d e0 = some e1 ∧ cond e1 = .ok true e1 ∧ elt e1 = .ok (f d) e3 ∧ wipeE e3 ws = e0) : mLc it ws tg cond elt e = .ok (.lst (vals (ds.map f))) e := by
  obtain ⟨e', r1, r2⟩ := lcGo_map (f := f) h4 ds e [] h3 (by simpa using hl) hs
  unfold mLc
  rw [h1]
  dsimp only
  rw [if_pos h2, r1]
  dsimp only
  rw [List.nil_append]
  rcases r2 with rfl | rfl
  · rw [h6]
  · rw [h5]
/-- a for loop over an invariant of the slots -/
theorem forGo_inv {tg : D → Env → Option Env} {body : M Fl} (P : Nat → Env → Prop) : ∀ (ds : List D) (i : Nat) (e : Env), P i e → (∀ (j : Nat) (d : D) (e : Env), ds[j]? = some d → P (i + j) e → ∃ e1 e2, tg d e = some e1 ∧ (body e1 = .ok .nx e2 ∨ body e1 = .ok .ct e2) ∧ P (i + j + 1) e2) →
    ∃ e', forGo tg body ds e = .ok .nx e' ∧ P (i + ds.length) e'
  | [], i, e, h, _ => ⟨e, rfl, h⟩
  | d :: ds, i, e, h, hs => by
    obtain ⟨e1, e2, k1, k2, k3⟩ := hs 0 d e rfl h
    obtain ⟨e', r1, r2⟩ := forGo_inv P ds (i + 1) e2 k3 fun j d' e' hj hp => by
      have := hs (j + 1) d' e' (by simpa using hj) (by rw [show i + (j + 1) = i + 1 + j by omega]; exact hp)
      rw [show i + (j + 1) + 1 = i + 1 + j + 1 by omega] at this
      exact this
    refine ⟨e', ?_, by rw [List.length_cons, show i + (ds.length + 1) = i + 1 + ds.length by omega]; exact r2⟩
    show (match tg d e with
      | some e1 => match body e1 with
        | .ok .nx e2 => forGo tg body ds e2
        | .ok .ct e2 => forGo tg body ds e2
        | .ok .brk e2 => .ok .nx e2
        | .ok (.ret o) e2 => .ok (.ret o) e2
        | .exc x e2 => .exc x e2
        | .no => .no
      | none => .no) = _
    rw [k1]
    dsimp only
    rcases k2 with k2 | k2 <;> rw [k2] <;> exact r1
end MP

set_option Elab.async false
set_option linter.all false
set_option maxRecDepth 100000
set_option maxHeartbeats 4000000
namespace MP
open PySem PySem.Spec PyProof.Rows L2

@[simp] theorem me_var_o (den : Den) : ∀ i, (mean den (.var i)).o = mVar i := by intros; exact (rfl)
@[simp] theorem me_cst_o (den : Den) : ∀ d, (mean den (.cst d)).o = mC d := by intros; exact (rfl)
@[simp] theorem me_bin_o (den : Den) : ∀ op a b, (mean den (.bin op a b)).o = mBin op (fz (mean den a).o) (fz (mean den b).o) := by intros; exact (rfl)
@[simp] theorem me_neg_o (den : Den) : ∀ a, (mean den (.neg a)).o = mNeg (fz (mean den a).o) := by intros; exact (rfl)
@[simp] theorem me_ofB_o (den : Den) : ∀ t, (mean den (.ofB t)).o = mB (mean den t).b := by intros; exact (rfl)
@[simp] theorem me_andV_o (den : Den) : ∀ a m, (mean den (.andV a m)).o = mAndV (mIsB (fz (mean den a).o)) (mean den m).o := by intros; exact (rfl)
@[simp] theorem me_orV_o (den : Den) : ∀ a m, (mean den (.orV a m)).o = mOrV (mIsB (fz (mean den a).o)) (mean den m).o := by intros; exact (rfl)
@[simp] theorem me_ifO_o (den : Den) : ∀ t a b, (mean den (.ifO t a b)).o = mIf (mean den t).b (mean den a).o (mean den b).o := by intros; exact (rfl)
@[simp] theorem me_ix_o (den : Den) : ∀ a b, (mean den (.ix a b)).o = mIx (fz (mean den a).o) (fz (mean den b).o) := by intros; exact (rfl)
@[simp] theorem me_sub_o (den : Den) : ∀ i b, (mean den (.sub i b)).o = mSub i (fz (mean den b).o) := by intros; exact (rfl)
@[simp] theorem me_sl_o (den : Den) : ∀ a lo hi, (mean den (.sl a lo hi)).o = mSl (fz (mean den a).o) (mean den lo).p (mean den hi).p := by intros; exact (rfl)
@[simp] theorem me_tup_o (den : Den) : ∀ l, (mean den (.tup l)).o = mTup (mean den l).l := by intros; exact (rfl)
@[simp] theorem me_lst_o (den : Den) : ∀ l, (mean den (.lst l)).o = mLst (mean den l).l := by intros; exact (rfl)
@[simp] theorem me_own_o (den : Den) : ∀ l, (mean den (.own l)).o = mOwnTup (mean den l).lo := by intros; exact (rfl)
@[simp] theorem me_bi_o (den : Den) : ∀ f l, (mean den (.bi f l)).o = mBi f (mean den l).l := by intros; exact (rfl)
@[simp] theorem me_split_o (den : Den) : ∀ a b, (mean den (.split a b)).o = mMt splitR (fz (mean den a).o) (fz (mean den b).o) := by intros; exact (rfl)
@[simp] theorem me_join_o (den : Den) : ∀ a b, (mean den (.join a b)).o = mMt joinD (fz (mean den a).o) (fz (mean den b).o) := by intros; exact (rfl)
@[simp] theorem me_fstr_o (den : Den) : ∀ l, (mean den (.fstr l)).o = mJoin (mean den l).lf := by intros; exact (rfl)
@[simp] theorem me_sset_o (den : Den) : ∀ a, (mean den (.sset a)).o = mSortSet (fz (mean den a).o) := by intros; exact (rfl)
@[simp] theorem me_srt_o (den : Den) : ∀ a, (mean den (.srt a)).o = mSort (fz (mean den a).o) := by intros; exact (rfl)
@[simp] theorem me_rep_o (den : Den) : ∀ a, (mean den (.rep a)).o = mRepr (fz (mean den a).o) := by intros; exact (rfl)
@[simp] theorem me_kget_o (den : Den) : ∀ t a b, (mean den (.kget t a b)).o = mKGet t (fz (mean den a).o) (fz (mean den b).o) := by intros; exact (rfl)
@[simp] theorem me_lenN_o (den : Den) : ∀ i, (mean den (.lenN i)).o = mLenN i := by intros; exact (rfl)
@[simp] theorem me_lc_o (den : Den) : ∀ it ws tg cond elt, (mean den (.lc it ws tg cond elt)).o = mLc (mean den it).i ws (tgF [] tg) (mean den cond).b (fz (mean den elt).o) := by intros; exact (rfl)
@[simp] theorem me_lcB_o (den : Den) : ∀ it ws ws1 tg cond it1 tg1 cond1 elt, (mean den (.lcB it ws ws1 tg cond it1 tg1 cond1 elt)).o = mLcB (mean den it).i ws ws1 (tgF [] tg) (mean den cond).b (mean den it1).i (tgF [] tg1) (mean den cond1).b (fz (mean den elt).o) := by intros; exact (rfl)
@[simp] theorem me_call_o (den : Den) : ∀ f n l df, (mean den (.call f n l df)).o = mCallD den f n (mean den l).la df := by intros; exact (rfl)
@[simp] theorem me_fr_o (den : Den) : ∀ a, (mean den (.fr a)).o = mFr (mean den a).o := by intros; exact (rfl)
@[simp] theorem me_cmp_b (den : Den) : ∀ op a b, (mean den (.cmp op a b)).b = mCmp op (fz (mean den a).o) (fz (mean den b).o) := by intros; exact (rfl)
@[simp] theorem me_chain_b (den : Den) : ∀ op op' a b c, (mean den (.chain op op' a b c)).b = mChain op op' (fz (mean den a).o) (fz (mean den b).o) (fz (mean den c).o) := by intros; exact (rfl)
@[simp] theorem me_and_b (den : Den) : ∀ t u, (mean den (.and t u)).b = mAnd (mean den t).b (mean den u).b := by intros; exact (rfl)
@[simp] theorem me_or_b (den : Den) : ∀ t u, (mean den (.or t u)).b = mOr (mean den t).b (mean den u).b := by intros; exact (rfl)
@[simp] theorem me_not_b (den : Den) : ∀ t, (mean den (.not t)).b = mNot (mean den t).b := by intros; exact (rfl)
@[simp] theorem me_tru_b (den : Den) : ∀ a, (mean den (.tru a)).b = mTru (fz (mean den a).o) := by intros; exact (rfl)
@[simp] theorem me_isB_b (den : Den) : ∀ a, (mean den (.isB a)).b = mIsB (fz (mean den a).o) := by intros; exact (rfl)
@[simp] theorem me_isi_b (den : Den) : ∀ a ty, (mean den (.isi a ty)).b = mIsi (fz (mean den a).o) ty := by intros; exact (rfl)
@[simp] theorem me_cmpP_b (den : Den) : ∀ op i p, (mean den (.cmpP op i p)).b = mCmpP op i p (.list []) := by intros; exact (rfl)
@[simp] theorem me_ifB_b (den : Den) : ∀ t a b, (mean den (.ifB t a b)).b = mIf (mean den t).b (mean den a).b (mean den b).b := by intros; exact (rfl)
@[simp] theorem me_yes_b (den : Den) : (mean den .yes).b = pur true := (rfl)
@[simp] theorem me_seq_i (den : Den) : ∀ a, (mean den (.seq a)).i = mSeq (fz (mean den a).o) := by intros; exact (rfl)
@[simp] theorem me_rng1_i (den : Den) : ∀ a, (mean den (.rng1 a)).i = mRng1 (fz (mean den a).o) := by intros; exact (rfl)
@[simp] theorem me_rng2_i (den : Den) : ∀ a b, (mean den (.rng2 a b)).i = mRng2 (fz (mean den a).o) (fz (mean den b).o) := by intros; exact (rfl)
@[simp] theorem me_rng3_i (den : Den) : ∀ a b c, (mean den (.rng3 a b c)).i = mRng3 (fz (mean den a).o) (fz (mean den b).o) (fz (mean den c).o) := by intros; exact (rfl)
@[simp] theorem me_enum_i (den : Den) : ∀ a, (mean den (.enum a)).i = mEnum (fz (mean den a).o) := by intros; exact (rfl)
@[simp] theorem me_zip_i (den : Den) : ∀ a b, (mean den (.zip a b)).i = mZip (fz (mean den a).o) (fz (mean den b).o) := by intros; exact (rfl)
@[simp] theorem me_argN_a (den : Den) : ∀ i, (mean den (.argN i)).a = mArg i := by intros; exact (rfl)
@[simp] theorem me_argV_a (den : Den) : ∀ a, (mean den (.argV a)).a = aVal (mean den a).o := by intros; exact (rfl)
@[simp] theorem me_pN_p (den : Den) : (mean den .pN).p = pur none := (rfl)
@[simp] theorem me_pS_p (den : Den) : ∀ a, (mean den (.pS a)).p = mPart (fz (mean den a).o) := by intros; exact (rfl)
@[simp] theorem me_fcon_d (den : Den) : ∀ z, (mean den (.fcon z)).d = pur (.str z) := by intros; exact (rfl)
@[simp] theorem me_ffmt_d (den : Den) : ∀ a, (mean den (.ffmt a)).d = mFmt (fz (mean den a).o) := by intros; exact (rfl)
@[simp] theorem me_cons_l (den : Den) : ∀ a l, (mean den (.cons a l)).l = fz (mean den a).o :: (mean den l).l := by intros; exact (rfl)
@[simp] theorem me_cons_lo (den : Den) : ∀ a l, (mean den (.cons a l)).lo = (mean den a).o :: (mean den l).lo := by intros; exact (rfl)
@[simp] theorem me_cons_la (den : Den) : ∀ a l, (mean den (.cons a l)).la = (mean den a).a :: (mean den l).la := by intros; exact (rfl)
@[simp] theorem me_cons_lf (den : Den) : ∀ a l, (mean den (.cons a l)).lf = (mean den a).d :: (mean den l).lf := by intros; exact (rfl)
@[simp] theorem me_seqS_s (den : Den) : ∀ a b, (mean den (.seqS a b)).s = sSeq (mean den a).s (mean den b).s := by intros; exact (rfl)
@[simp] theorem me_skip_s (den : Den) : (mean den .skip).s = sSkip := (rfl)
@[simp] theorem me_drop_s (den : Den) : ∀ a, (mean den (.drop a)).s = sDrop (fz (mean den a).o) := by intros; exact (rfl)
@[simp] theorem me_set_s (den : Den) : ∀ i m, (mean den (.set i m)).s = sSet [] i (mean den m).o := by intros; exact (rfl)
@[simp] theorem me_tgt_s (den : Den) : ∀ tg m, (mean den (.tgt tg m)).s = sTgt (tgF [] tg) (fz (mean den m).o) := by intros; exact (rfl)
@[simp] theorem me_tgtO_s (den : Den) : ∀ js m, (mean den (.tgtO js m)).s = sTgtO js (mean den m).o := by intros; exact (rfl)
@[simp] theorem me_par_s (den : Den) : ∀ i j m n, (mean den (.par i j m n)).s = sPar [] i j (mean den m).o (mean den n).o := by intros; exact (rfl)
@[simp] theorem me_app_s (den : Den) : ∀ i p m, (mean den (.app i p m)).s = sAppQ i p (mean den m).o := by intros; exact (rfl)
@[simp] theorem me_ext_s (den : Den) : ∀ i m, (mean den (.ext i m)).s = sExtQ i (mean den m).o := by intros; exact (rfl)
@[simp] theorem me_setIx_s (den : Den) : ∀ i k m, (mean den (.setIx i k m)).s = sSetIx i (fz (mean den k).o) (fz (mean den m).o) := by intros; exact (rfl)
@[simp] theorem me_ret_s (den : Den) : ∀ m, (mean den (.ret m)).s = sRet (mean den m).o := by intros; exact (rfl)
@[simp] theorem me_retN_s (den : Den) : (mean den .retN).s = sRetN := (rfl)
@[simp] theorem me_raise_s (den : Den) : ∀ c m, (mean den (.raise c m)).s = sRaise c (some (fz (mean den m).o)) := by intros; exact (rfl)
@[simp] theorem me_ifS_s (den : Den) : ∀ t a b, (mean den (.ifS t a b)).s = mIf (mean den t).b (mean den a).s (mean den b).s := by intros; exact (rfl)
@[simp] theorem me_for_s (den : Den) : ∀ it tg body, (mean den (.for it tg body)).s = sFor (mean den it).i (tgF [] tg) (mean den body).s := by intros; exact (rfl)
@[simp] theorem me_while_s (den : Den) : ∀ t body, (mean den (.while t body)).s = whileGo (mean den t).b (mean den body).s whileN := by intros; exact (rfl)
@[simp] theorem me_tryF_s (den : Den) : ∀ body sub ok i j, (mean den (.tryF body sub ok i j)).s = sTryF (mean den body).s (fun c => sub.lookup c) (fun c => ok.contains c) i j := by intros; exact (rfl)
@[simp] theorem me_brk_s (den : Den) : (mean den .brk).s = sBrk := (rfl)
@[simp] theorem me_ct_s (den : Den) : (mean den .ct).s = sCt := (rfl)
@[simp] theorem me_nil_l (den : Den) : (mean den .nil).l = [] := (rfl)
@[simp] theorem me_nil_lo (den : Den) : (mean den .nil).lo = [] := (rfl)
@[simp] theorem me_nil_la (den : Den) : (mean den .nil).la = [] := (rfl)
@[simp] theorem me_nil_lf (den : Den) : (mean den .nil).lf = [] := (rfl)

section
variable {α β γ : Type}
def Out.bind (o : Out α) (f : α → Env → Out β) : Out β := match o with
  | .ok a e => f a e
  | .exc x e => .exc x e
  | .no => .no
@[simp] theorem Out.bind_ok (a : α) (e : Env) (f : α → Env → Out β) : (Out.ok a e).bind f = f a e := (rfl)
@[simp] theorem Out.bind_exc (x : Exc) (e : Env) (f : α → Env → Out β) : (Out.exc x e).bind f = .exc x e := (rfl)
@[simp] theorem Out.bind_no (f : α → Env → Out β) : (Out.no : Out α).bind f = .no := (rfl)
@[simp] theorem Out.bind_ite (c : Prop) [Decidable c] (x y : Out α) (f : α → Env → Out β) : (if c then x else y).bind f = if c then x.bind f else y.bind f := by split <;> rfl
@[simp] theorem ev_bnd (m : M α) (f : α → M β) (e : Env) : bnd m f e = (m e).bind f := by
  unfold bnd
  cases m e <;> rfl
@[simp] theorem ev_pur (a : α) (e : Env) : pur a e = .ok a e := (rfl)
@[simp] theorem ev_bad (e : Env) : (bad : M α) e = .no := (rfl)
@[simp] theorem opt_some (a : α) : opt (some a) = pur a := (rfl)
@[simp] theorem opt_none : opt (none : Option α) = bad := (rfl)
/-- a test, then the rest -/
def andO (b : Bool) (o : Out Bool) (e : Env) : Out Bool := if b then o else .ok false e
@[simp] theorem andO_ok (b c : Bool) (e : Env) : andO b (.ok c e) e = .ok (b && c) e := by cases b <;> rfl
@[simp] theorem andO_true (o : Out Bool) (e : Env) : andO true o e = o := (rfl)
@[simp] theorem andO_false (o : Out Bool) (e : Env) : andO false o e = .ok false e := (rfl)
def orO (b : Bool) (o : Out Bool) (e : Env) : Out Bool := if b then .ok true e else o
@[simp] theorem orO_ok (b c : Bool) (e : Env) : orO b (.ok c e) e = .ok (b || c) e := by cases b <;> rfl
@[simp] theorem orO_true (o : Out Bool) (e : Env) : orO true o e = .ok true e := (rfl)
@[simp] theorem orO_false (o : Out Bool) (e : Env) : orO false o e = o := (rfl)
def andVO (b : Bool) (o : Out O) (e : Env) : Out O := if b then o else .ok (.val (.bool false)) e
@[simp] theorem andVO_ok (b c : Bool) (e : Env) : andVO b (.ok (.val (.bool c)) e) e = .ok (.val (.bool (b && c))) e := by cases b <;> rfl
@[simp] theorem andVO_true (o : Out O) (e : Env) : andVO true o e = o := (rfl)
@[simp] theorem andVO_false (o : Out O) (e : Env) : andVO false o e = .ok (.val (.bool false)) e := (rfl)
def orVO (b : Bool) (o : Out O) (e : Env) : Out O := if b then .ok (.val (.bool true)) e else o
@[simp] theorem orVO_ok (b c : Bool) (e : Env) : orVO b (.ok (.val (.bool c)) e) e = .ok (.val (.bool (b || c))) e := by cases b <;> rfl
@[simp] theorem orVO_true (o : Out O) (e : Env) : orVO true o e = .ok (.val (.bool true)) e := (rfl)
@[simp] theorem orVO_false (o : Out O) (e : Env) : orVO false o e = o := (rfl)
@[simp] theorem ev_mAnd (t u : M Bool) (e : Env) : mAnd t u e = (t e).bind fun b e' => andO b (u e') e' := by
  unfold mAnd; rw [ev_bnd]; congr 1; funext b e'; cases b <;> rfl
@[simp] theorem ev_mOr (t u : M Bool) (e : Env) : mOr t u e = (t e).bind fun b e' => orO b (u e') e' := by
  unfold mOr; rw [ev_bnd]; congr 1; funext b e'; cases b <;> rfl
@[simp] theorem ev_mAndV (t : M Bool) (m : M O) (e : Env) : mAndV t m e = (t e).bind fun b e' => andVO b (m e') e' := by
  unfold mAndV; rw [ev_bnd]; congr 1; funext b e'; cases b <;> rfl
@[simp] theorem ev_mOrV (t : M Bool) (m : M O) (e : Env) : mOrV t m e = (t e).bind fun b e' => orVO b (m e') e' := by
  unfold mOrV; rw [ev_bnd]; congr 1; funext b e'; cases b <;> rfl
@[simp] theorem ev_mNot (t : M Bool) (e : Env) : mNot t e = (t e).bind fun b e' => .ok (!b) e' := by unfold mNot; rw [ev_bnd]; rfl
@[simp] theorem ev_mIf (t : M Bool) (a b : M α) (e : Env) : mIf t a b e = (t e).bind fun c e' => if c = true then a e' else b e' := by
  unfold mIf; rw [ev_bnd]; congr 1; funext b e'; cases b <;> rfl
@[simp] theorem ev_fz (m : M O) (e : Env) : fz m e = (m e).bind fun o e' => .ok o.frz e' := by unfold fz; rw [ev_bnd]; rfl
@[simp] theorem ev_mB (t : M Bool) (e : Env) : mB t e = (t e).bind fun b e' => .ok (.val (.bool b)) e' := by unfold mB; rw [ev_bnd]; rfl
@[simp] theorem ev_mC (d : D) (e : Env) : mC d e = .ok (.val d) e := (rfl)
def isbO : D → Env → Out Bool
  | .bool b, e => .ok b e
  | _, _ => .no
@[simp] theorem isbO_bool (b : Bool) (e : Env) : isbO (.bool b) e = .ok b e := (rfl)
@[simp] theorem ev_mIsB (m : M D) (e : Env) : mIsB m e = (m e).bind isbO := by
  unfold mIsB; rw [ev_bnd]; congr 1; funext d e'; cases d <;> rfl
def optO : Option α → Env → Out α
  | some a, e => .ok a e
  | none, _ => .no
@[simp] theorem optO_some (a : α) (e : Env) : optO (some a) e = .ok a e := (rfl)
@[simp] theorem optO_none (e : Env) : optO (none : Option α) e = .no := (rfl)
@[simp] theorem ev_opt (o : Option α) (e : Env) : opt o e = optO o e := by cases o <;> rfl
@[simp] theorem optO_ite (c : Prop) [Decidable c] (x y : Option α) (e : Env) : optO (if c then x else y) e = if c then optO x e else optO y e := by split <;> rfl
@[simp] theorem ev_mTru (m : M D) (e : Env) : mTru m e = (m e).bind fun d e' => optO (truR d) e' := by unfold mTru; rw [ev_bnd]; congr 1; funext d e'; exact ev_opt _ _
def resO : Option Res → Env → Out O
  | some r, e => .ok r.o e
  | none, _ => .no
@[simp] theorem resO_some (r : Res) (e : Env) : resO (some r) e = .ok r.o e := (rfl)
@[simp] theorem resO_none (e : Env) : resO none e = .no := (rfl)
@[simp] theorem resO_ite (c : Prop) [Decidable c] (x y : Option Res) (e : Env) : resO (if c then x else y) e = if c then resO x e else resO y e := by split <;> rfl
@[simp] theorem ev_resM (r : Option Res) (e : Env) : resM r e = resO r e := by cases r <;> rfl
@[simp] theorem res_val (d : D) : (Res.val d).o = .val d := (rfl)
@[simp] theorem res_new (ds : List D) : (Res.new ds).o = .lst (vals ds) := (rfl)
@[simp] theorem ev_mBin (op : Operator) (a b : M D) (e : Env) : mBin op a b e = (a e).bind fun x e1 => (b e1).bind fun y e2 => resO (binR op x y) e2 := by
  unfold mBin; rw [ev_bnd]; congr 1; funext x e1; rw [ev_bnd]; congr 1; funext y e2; exact ev_resM _ _
def negO : D → Env → Out O
  | .int i, e => .ok (.val (.int (-i))) e
  | _, _ => .no
@[simp] theorem negO_int (i : Int) (e : Env) : negO (.int i) e = .ok (.val (.int (-i))) e := (rfl)
@[simp] theorem ev_mNeg (a : M D) (e : Env) : mNeg a e = (a e).bind negO := by
  unfold mNeg; rw [ev_bnd]; congr 1; funext d e'; cases d <;> rfl
@[simp] theorem ev_mCmp (op : CmpOp) (a b : M D) (e : Env) : mCmp op a b e = (a e).bind fun x e1 => (b e1).bind fun y e2 => optO (cmpR op x y) e2 := by
  unfold mCmp; rw [ev_bnd]; congr 1; funext x e1; rw [ev_bnd]; congr 1; funext y e2; exact ev_opt _ _
@[simp] theorem ev_mChain (op op' : CmpOp) (a b c : M D) (e : Env) : mChain op op' a b c e = (a e).bind fun x e1 => (b e1).bind fun y e2 => (optO (cmpR op x y) e2).bind fun k e3 => andO k ((c e3).bind fun z e4 => optO (cmpR op' y z) e4) e3 := by
  unfold mChain; rw [ev_bnd]; congr 1; funext x e1; rw [ev_bnd]; congr 1; funext y e2; rw [ev_bnd, ev_opt]; congr 1; funext k e3; cases k
  · rfl
  · show bnd c _ e3 = _; rw [ev_bnd]; show _ = Out.bind _ _; congr 1; funext z e4; exact ev_opt _ _
@[simp] theorem ev_mIx (a b : M D) (e : Env) : mIx a b e = (a e).bind fun x e1 => (b e1).bind fun y e2 => resO ((ixR x y).map .val) e2 := by
  unfold mIx; rw [ev_bnd]; congr 1; funext x e1; rw [ev_bnd]; congr 1; funext y e2; exact ev_resM _ _
def varO (i : Nat) : Option (Option O) → Env → Out O
  | some (some (.val d)), e => .ok (.val d) e
  | some (some o), e => .ok (.val o.frz) (e.set i (some (.val o.frz)))
  | _, _ => .no
@[simp] theorem varO_val (i : Nat) (d : D) (e : Env) : varO i (some (some (.val d))) e = .ok (.val d) e := (rfl)
@[simp] theorem varO_lst (i : Nat) (os : List O) (e : Env) : varO i (some (some (.lst os))) e = .ok (.val (O.lst os).frz) (e.set i (some (.val (O.lst os).frz))) := (rfl)
@[simp] theorem varO_tup (i : Nat) (os : List O) (e : Env) : varO i (some (some (.tup os))) e = .ok (.val (O.tup os).frz) (e.set i (some (.val (O.tup os).frz))) := (rfl)
@[simp] theorem ev_mVar (i : Nat) (e : Env) : mVar i e = varO i e[i]? e := by
  unfold mVar varO; cases e[i]? with
  | none => rfl
  | some o => cases o with
    | none => rfl
    | some o => cases o <;> rfl
def getO : Option D → Env → Out O
  | some z, e => .ok (.val z) e
  | none, _ => .no
@[simp] theorem getO_some (z : D) (e : Env) : getO (some z) e = .ok (.val z) e := (rfl)
def getOO : Option O → Env → Out O
  | some (.val z), e => .ok (.val z) e
  | _, _ => .no
@[simp] theorem getOO_some (z : D) (e : Env) : getOO (some (.val z)) e = .ok (.val z) e := (rfl)
@[simp] theorem getOO_vals (o : Option D) (e : Env) : getOO (o.map O.val) e = getO o e := by cases o <;> rfl
def subB : Option (Option O) → D → Env → Out O
  | some (some (.val d)), y, e => getO (ixR d y) e
  | some (some (.lst os)), .int k, e => getOO (atI os k) e
  | _, _, _ => .no
@[simp] theorem subB_val (d y : D) (e : Env) : subB (some (some (.val d))) y e = getO (ixR d y) e := by cases y <;> rfl
@[simp] theorem subB_lst (os : List O) (k : Int) (e : Env) : subB (some (some (.lst os))) (.int k) e = getOO (atI os k) e := (rfl)
def hasO : Option (Option O) → Out α → Out α
  | some (some _), r => r
  | _, _ => .no
@[simp] theorem hasO_some (o : O) (r : Out α) : hasO (some (some o)) r = r := (rfl)
@[simp] theorem ev_mSub (i : Nat) (b : M D) (e : Env) : mSub i b e = hasO e[i]? ((b e).bind fun y e' => subB e'[i]? y e') := by
  unfold mSub
  cases e[i]? with
  | none => rfl
  | some o => cases o with
    | none => rfl
    | some o =>
      dsimp only [hasO]
      cases b e with
      | no => rfl
      | exc x e' => rfl
      | ok y e' =>
        dsimp only [Out.bind]
        cases e'[i]? with
        | none => cases y <;> rfl
        | some o => cases o with
          | none => cases y <;> rfl
          | some o => cases o with
            | val d => rw [subB_val]; dsimp only; cases ixR d y <;> rfl
            | tup os => cases y <;> rfl
            | lst os => cases y with
              | int k =>
                dsimp only [subB]
                cases atI os k with
                | none => rfl
                | some z => cases z <;> rfl
              | _ => rfl
def partO : D → Env → Out (Option Int)
  | .int i, e => .ok (some i) e
  | _, _ => .no
@[simp] theorem partO_int (i : Int) (e : Env) : partO (.int i) e = .ok (some i) e := (rfl)
@[simp] theorem ev_mPart (m : M D) (e : Env) : mPart m e = (m e).bind partO := by
  unfold mPart; rw [ev_bnd]; congr 1; funext d e'; cases d <;> rfl
@[simp] theorem ev_mSl (a : M D) (lo hi : M (Option Int)) (e : Env) : mSl a lo hi e = (a e).bind fun x e1 => (lo e1).bind fun l e2 => (hi e2).bind fun h e3 => resO (slR x l h) e3 := by
  unfold mSl; rw [ev_bnd]; congr 1; funext x e1; rw [ev_bnd]; congr 1; funext y e2; rw [ev_bnd]; congr 1; funext y e2; exact ev_resM _ _
@[simp] theorem ev_mList_nil (e : Env) : mList ([] : List (M α)) e = .ok [] e := (rfl)
@[simp] theorem ev_mList_cons (m : M α) (ms : List (M α)) (e : Env) : mList (m :: ms) e = (m e).bind fun d e1 => (mList ms e1).bind fun ds e2 => .ok (d :: ds) e2 := by
  show bnd m _ e = _; rw [ev_bnd]; congr 1
@[simp] theorem lenOk_def (n : Nat) : lenOk n = decide (n ≤ 16777216) := (rfl)
@[simp] theorem ev_mTup (ms : List (M D)) (e : Env) : mTup ms e = (mList ms e).bind fun ds e' => if lenOk ds.length = true then .ok (.val (.tuple ds)) e' else .no := by
  unfold mTup; rw [ev_bnd]; congr 1; funext d e'; cases lenOk d.length <;> rfl
@[simp] theorem ev_mLst (ms : List (M D)) (e : Env) : mLst ms e = (mList ms e).bind fun ds e' => if lenOk ds.length = true then .ok (.lst (vals ds)) e' else .no := by
  unfold mLst; rw [ev_bnd]; congr 1; funext d e'; cases lenOk d.length <;> rfl
@[simp] theorem ev_mOwnTup (ms : List (M O)) (e : Env) : mOwnTup ms e = (mList ms e).bind fun os e' => if lenOk os.length = true then .ok (.tup os) e' else .no := by
  unfold mOwnTup; rw [ev_bnd]; congr 1; funext d e'; cases lenOk d.length <;> rfl
@[simp] theorem ev_mBi (f : Bi) (ms : List (M D)) (e : Env) : mBi f ms e = (mList ms e).bind fun ds e' => resO (biR f ds) e' := by
  unfold mBi; rw [ev_bnd]; congr 1; funext d e'; exact ev_resM _ _
def mtO (f : Str → D → Option Res) (n : M D) : D → Env → Out O
  | .str a, e => (n e).bind fun x e' => resO (f a x) e'
  | _, _ => .no
@[simp] theorem mtO_str (f : Str → D → Option Res) (n : M D) (a : Str) (e : Env) : mtO f n (.str a) e = (n e).bind fun x e' => resO (f a x) e' := (rfl)
@[simp] theorem ev_mMt (f : Str → D → Option Res) (m n : M D) (e : Env) : mMt f m n e = (m e).bind (mtO f n) := by
  unfold mMt; rw [ev_bnd]; congr 1; funext d e'
  cases d <;> try rfl
  show bnd n _ e' = Out.bind _ _; rw [ev_bnd]; congr 1; funext x e'; exact ev_resM _ _
@[simp] theorem ev_mIsi (m : M D) (T : String) (e : Env) : mIsi m T e = (m e).bind fun d e' => optO (isiR d T) e' := by
  unfold mIsi; rw [ev_bnd]; congr 1; funext d e'; exact ev_opt _ _
@[simp] theorem ev_mFmt (m : M D) (e : Env) : mFmt m e = (m e).bind fun d e' => (optO (fmtR d) e').bind fun z e2 => .ok (.str z) e2 := by
  unfold mFmt; rw [ev_bnd]; congr 1; funext d e'; rw [ev_bnd, ev_opt]; rfl
def jsO (k : Str → M Str) (acc : Str) : D → Env → Out Str
  | .str y, e => if lenOk (acc ++ y).length = true then k (acc ++ y) e else .no
  | _, _ => .no
@[simp] theorem jsO_str (k : Str → M Str) (acc y : Str) (e : Env) : jsO k acc (.str y) e = if lenOk (acc ++ y).length = true then k (acc ++ y) e else .no := (rfl)
@[simp] theorem ev_mJs_nil (acc : Str) (e : Env) : mJs [] acc e = .ok acc e := (rfl)
@[simp] theorem ev_mJs_cons (m : M D) (ms : List (M D)) (acc : Str) (e : Env) : mJs (m :: ms) acc e = (m e).bind (jsO (mJs ms) acc) := by
  show bnd m _ e = _; rw [ev_bnd]; congr 1; funext d e'
  cases d <;> try rfl
  show (if lenOk _ = true then _ else _ : M Str) e' = _
  rw [jsO_str]; split <;> rfl
@[simp] theorem ev_mJoin (ms : List (M D)) (e : Env) : mJoin ms e = (mJs ms Str.empty e).bind fun z e' => .ok (.val (.str z)) e' := by unfold mJoin; rw [ev_bnd]; rfl
@[simp] theorem ev_mFr (m : M O) (e : Env) : mFr m e = (m e).bind fun o e' => .ok (.val o.frz) e' := by unfold mFr; rw [ev_bnd]; rfl
def lenO : Option (Option O) → Env → Out O
  | some (some o), e => resO (lenR [o.frz]) e
  | _, _ => .no
@[simp] theorem lenO_some (o : O) (e : Env) : lenO (some (some o)) e = resO (lenR [o.frz]) e := (rfl)
@[simp] theorem ev_mLenN (i : Nat) (e : Env) : mLenN i e = lenO e[i]? e := by
  unfold mLenN; cases e[i]? with
  | none => rfl
  | some o => cases o with
    | none => rfl
    | some o => show (match lenR [o.frz] with | some r => Out.ok r.o e | none => .no) = resO (lenR [o.frz]) e; cases lenR [o.frz] <;> rfl
@[simp] theorem ev_mSortSet (m : M D) (e : Env) : mSortSet m e = (m e).bind fun d e' => resO (sortSetR d) e' := by unfold mSortSet; rw [ev_bnd]; congr 1; funext d e'; exact ev_resM _ _
@[simp] theorem ev_mSort (m : M D) (e : Env) : mSort m e = (m e).bind fun d e' => resO (sortR d) e' := by unfold mSort; rw [ev_bnd]; congr 1; funext d e'; exact ev_resM _ _
@[simp] theorem ev_mRepr (m : M D) (e : Env) : mRepr m e = (m e).bind fun d e' => resO (reprR d) e' := by unfold mRepr; rw [ev_bnd]; congr 1; funext d e'; exact ev_resM _ _
def kgetO (l : List (Str × D)) : D → D → Env → Out O
  | .str x, z, e => .ok (.val ((l.lookup x).getD z)) e
  | _, _, _ => .no
@[simp] theorem kgetO_str (l : List (Str × D)) (x : Str) (z : D) (e : Env) : kgetO l (.str x) z e = .ok (.val ((l.lookup x).getD z)) e := (rfl)
@[simp] theorem ev_mKGet (l : List (Str × D)) (m n : M D) (e : Env) : mKGet l m n e = (m e).bind fun d e1 => (n e1).bind fun z e2 => kgetO l d z e2 := by
  unfold mKGet; rw [ev_bnd]; congr 1; funext d e1; rw [ev_bnd]; congr 1; funext z e2; cases d <;> rfl

def argO (i : Nat) : Option (Option O) → Env → Out Arg
  | some (some (.val d)), e => .ok (.val d) e
  | some (some _), e => .ok (.lend i) e
  | _, _ => .no
@[simp] theorem argO_val (i : Nat) (d : D) (e : Env) : argO i (some (some (.val d))) e = .ok (.val d) e := (rfl)
@[simp] theorem argO_lst (i : Nat) (os : List O) (e : Env) : argO i (some (some (.lst os))) e = .ok (.lend i) e := (rfl)
@[simp] theorem argO_tup (i : Nat) (os : List O) (e : Env) : argO i (some (some (.tup os))) e = .ok (.lend i) e := (rfl)
@[simp] theorem ev_mArg (i : Nat) (e : Env) : mArg i e = argO i e[i]? e := by
  unfold mArg; cases e[i]? with
  | none => rfl
  | some o => cases o with
    | none => rfl
    | some o => cases o <;> rfl
@[simp] theorem ev_aVal (m : M O) (e : Env) : aVal m e = (m e).bind fun o e' => .ok (.val o.frz) e' := by unfold aVal; rw [ev_bnd]; rfl
def retO (as : List Arg) (e : Env) : FOut → Out O
  | .ok o fin => if fin.length = as.length then .ok o (taken as fin e) else .no
  | .exc x fin => if fin.length = as.length then .exc x (taken as fin e) else .no
  | .no => .no
@[simp] theorem retO_ok (as : List Arg) (e : Env) (o : O) (fin : List (Option O)) : retO as e (.ok o fin) = if fin.length = as.length then .ok o (taken as fin e) else .no := (rfl)
@[simp] theorem retO_exc (as : List Arg) (e : Env) (x : Exc) (fin : List (Option O)) : retO as e (.exc x fin) = if fin.length = as.length then .exc x (taken as fin e) else .no := (rfl)
@[simp] theorem retO_ite (as : List Arg) (e : Env) (c : Prop) [Decidable c] (x y : FOut) : retO as e (if c then x else y) = if c then retO as e x else retO as e y := by split <;> rfl
def callO (den : Den) (f : Str) (as : List Arg) (e : Env) : Option (List O) → Out O
  | some os => if (lents as).Nodup then retO as e (den f os) else .no
  | none => .no
@[simp] theorem callO_some (den : Den) (f : Str) (as : List Arg) (e : Env) (os : List O) : callO den f as e (some os) = if (lents as).Nodup then retO as e (den f os) else .no := (rfl)
@[simp] theorem ev_callM (den : Den) (f : Str) (as : List Arg) (e : Env) : callM den f as e = callO den f as e (given e as) := by
  unfold callM callO
  cases given e as with
  | none => rfl
  | some os =>
    dsimp only
    split
    · cases den f os <;> rfl
    · rfl
@[simp] theorem ev_mCallD (den : Den) (f : Str) (n : Nat) (ms : List (M Arg)) (df : List D) (e : Env) : mCallD den f n ms df e = (mList ms e).bind fun as e' => if as.length + df.length = n then callM den f (as ++ df.map Arg.val) e' else .no := by
  unfold mCallD; rw [ev_bnd]; congr 1; funext as e'; split <;> rfl
@[simp] theorem given_nil (e : Env) : given e [] = some [] := (rfl)
@[simp] theorem given_val (e : Env) (d : D) (r : List Arg) : given e (.val d :: r) = (given e r).map (.val d :: ·) := (rfl)
def giveO : Option (Option O) → Option (List O) → Option (List O)
  | some (some o), r => r.map (o :: ·)
  | _, _ => none
@[simp] theorem giveO_some (o : O) (r : Option (List O)) : giveO (some (some o)) r = r.map (o :: ·) := (rfl)
@[simp] theorem given_lend (e : Env) (i : Nat) (r : List Arg) : given e (.lend i :: r) = giveO e[i]? (given e r) := by
  show (match e[i]? with | some (some o) => (given e r).map (o :: ·) | _ => none) = _
  cases e[i]? with
  | none => rfl
  | some o => cases o <;> rfl
@[simp] theorem lents_nil : lents [] = [] := (rfl)
@[simp] theorem lents_val (d : D) (r : List Arg) : lents (.val d :: r) = lents r := (rfl)
@[simp] theorem lents_lend (i : Nat) (r : List Arg) : lents (.lend i :: r) = i :: lents r := (rfl)
@[simp] theorem taken_nil (fin : List (Option O)) (e : Env) : taken [] fin e = e := by unfold taken; rfl
@[simp] theorem taken_val (d : D) (r : List Arg) (x : Option O) (xs : List (Option O)) (e : Env) : taken (.val d :: r) (x :: xs) e = taken r xs e := (rfl)
@[simp] theorem taken_lend (i : Nat) (r : List Arg) (x : Option O) (xs : List (Option O)) (e : Env) : taken (.lend i :: r) (x :: xs) e = taken r xs (e.set i x) := (rfl)

def setO : Option Env → Out Fl
  | some e => .ok .nx e
  | none => .no
@[simp] theorem setO_some (e : Env) : setO (some e) = .ok .nx e := (rfl)
@[simp] theorem ev_sSet (pins : List Nat) (i : Nat) (m : M O) (e : Env) : sSet pins i m e = (m e).bind fun o e' => setO (setL pins i o e') := by
  unfold sSet; rw [ev_bnd]; congr 1
@[simp] theorem ev_sTgt (tg : D → Env → Option Env) (m : M D) (e : Env) : sTgt tg m e = (m e).bind fun d e' => setO (tg d e') := by
  unfold sTgt; rw [ev_bnd]; congr 1
@[simp] theorem ev_sPar (pins : List Nat) (i j : Nat) (m n : M O) (e : Env) : sPar pins i j m n e = (m e).bind fun o e1 => (n e1).bind fun o' e2 => setO ((setL pins i o e2).bind (setL pins j o')) := by
  unfold sPar; rw [ev_bnd]; congr 1
def tgtOO (js : List Nat) : O → Env → Out Fl
  | .tup os, e => setO (setAllO js os e)
  | _, _ => .no
@[simp] theorem tgtOO_tup (js : List Nat) (os : List O) (e : Env) : tgtOO js (.tup os) e = setO (setAllO js os e) := (rfl)
@[simp] theorem ev_sTgtO (js : List Nat) (m : M O) (e : Env) : sTgtO js m e = (m e).bind (tgtOO js) := by
  unfold sTgtO; rw [ev_bnd]; congr 1; funext o e'; cases o <;> rfl
@[simp] theorem setL_eq (i : Nat) (o : O) (e : Env) : setL [] i o e = if i < e.length ∧ 8 ≤ i then some (e.set i (some o)) else none := by
  unfold setL
  by_cases h1 : i < e.length <;> by_cases h2 : 8 ≤ i <;> simp [h1, h2]
@[simp] theorem tgF_name (i : Nat) (d : D) (e : Env) : tgF [] (.name i) d e = setL [] i (.val d) e := (rfl)
@[simp] theorem tgF_tup (is : List Nat) (ds : List D) (e : Env) : tgF [] (.tup is) (.tuple ds) e = setAll [] is ds e := (rfl)
@[simp] theorem tgF_tupl (is : List Nat) (ds : List D) (e : Env) : tgF [] (.tup is) (.list ds) e = setAll [] is ds e := (rfl)
@[simp] theorem tgF_star (i j : Nat) (d : D) (ds : List D) (e : Env) : tgF [] (.star i j) (.list (d :: ds)) e = (setL [] i (.val d) e).bind (setL [] j (.lst (vals ds))) := (rfl)
@[simp] theorem setAll_nil (e : Env) : setAll [] [] [] e = some e := (rfl)
@[simp] theorem setAll_cons (i : Nat) (is : List Nat) (d : D) (ds : List D) (e : Env) : setAll [] (i :: is) (d :: ds) e = (setL [] i (.val d) e).bind (setAll [] is ds) := (rfl)
@[simp] theorem setAllO_nil (e : Env) : setAllO [] [] e = some e := (rfl)
@[simp] theorem setAllO_cons (i : Nat) (is : List Nat) (o : O) (os : List O) (e : Env) : setAllO (i :: is) (o :: os) e = (setL [] i o e).bind (setAllO is os) := (rfl)
@[simp] theorem bind_ite_some {α β : Type} (c : Prop) [Decidable c] (x y : Option α) (f : α → Option β) : (if c then x else y).bind f = if c then x.bind f else y.bind f := by split <;> rfl
def seqO (b : M Fl) : Fl → Env → Out Fl
  | .nx, e => b e
  | f, e => .ok f e
@[simp] theorem seqO_nx (b : M Fl) (e : Env) : seqO b .nx e = b e := (rfl)
@[simp] theorem seqO_ret (b : M Fl) (o : O) (e : Env) : seqO b (.ret o) e = .ok (.ret o) e := (rfl)
@[simp] theorem seqO_brk (b : M Fl) (e : Env) : seqO b .brk e = .ok .brk e := (rfl)
@[simp] theorem seqO_ct (b : M Fl) (e : Env) : seqO b .ct e = .ok .ct e := (rfl)
@[simp] theorem ev_sSeq (a b : M Fl) (e : Env) : sSeq a b e = (a e).bind (seqO b) := by
  unfold sSeq; rw [ev_bnd]; congr 1; funext f e'; cases f <;> rfl
@[simp] theorem ev_sSkip (e : Env) : sSkip e = .ok .nx e := (rfl)
@[simp] theorem ev_sDrop (m : M D) (e : Env) : sDrop m e = (m e).bind fun _ e' => .ok .nx e' := by unfold sDrop; rw [ev_bnd]; rfl
@[simp] theorem ev_sRet (m : M O) (e : Env) : sRet m e = (m e).bind fun o e' => .ok (.ret o) e' := by unfold sRet; rw [ev_bnd]; rfl
@[simp] theorem ev_sRetN (e : Env) : sRetN e = .ok (.ret (.val .none)) e := (rfl)
@[simp] theorem ev_sRaise (c : Str) (m : M D) (e : Env) : sRaise c (some m) e = (m e).bind fun d e' => .exc ⟨c, some d⟩ e' := by show bnd m _ e = _; exact ev_bnd _ _ _
@[simp] theorem ev_sRaise0 (c : Str) (e : Env) : sRaise c none e = .exc ⟨c, none⟩ e := (rfl)
@[simp] theorem ev_sBrk (e : Env) : sBrk e = .ok .brk e := (rfl)
@[simp] theorem ev_sCt (e : Env) : sCt e = .ok .ct e := (rfl)
/-- x.append(..) -/
def appB (i : Nat) (os : List O) : Out O → Out Fl
  | .ok x e => if os.length < 16777216 then .ok .nx (e.set i (some (.lst (os ++ [x])))) else .no
  | .exc x e => .exc x (e.set i (some (.lst os)))
  | .no => .no
@[simp] theorem appB_ok (i : Nat) (os : List O) (x : O) (e : Env) : appB i os (.ok x e) = if os.length < 16777216 then .ok .nx (e.set i (some (.lst (os ++ [x])))) else .no := (rfl)
@[simp] theorem appB_exc (i : Nat) (os : List O) (x : Exc) (e : Env) : appB i os (.exc x e) = .exc x (e.set i (some (.lst os))) := (rfl)
@[simp] theorem appB_ite (i : Nat) (os : List O) (c : Prop) [Decidable c] (x y : Out O) : appB i os (if c then x else y) = if c then appB i os x else appB i os y := by split <;> rfl
def appA (i : Nat) (m : M O) (e : Env) : Option (Option O) → Out Fl
  | some (some (.lst os)) => appB i os (m (e.set i none))
  | _ => .no
@[simp] theorem appA_lst (i : Nat) (m : M O) (e : Env) (os : List O) : appA i m e (some (some (.lst os))) = appB i os (m (e.set i none)) := (rfl)
@[simp] theorem ev_sAppQ (i : Nat) (m : M O) (e : Env) : sAppQ i [] m e = appA i m e e[i]? := by
  unfold sAppQ
  cases e[i]? with
  | none => rfl
  | some o => cases o with
    | none => rfl
    | some o => cases o with
      | val d => rfl
      | tup os => rfl
      | lst os =>
        show (match m (e.set i none) with
          | .ok x e' => match setP (appO x) (.lst os) [] with
            | some o' => Out.ok Fl.nx (e'.set i (some o'))
            | none => .no
          | .exc x e' => .exc x (e'.set i (some (.lst os)))
          | .no => .no) = _
        rw [appA_lst]
        cases m (e.set i none) with
        | no => rfl
        | exc x e' => rfl
        | ok x e' =>
          show (match (if decide (os.length < sizeLine) = true then some (O.lst (os ++ [x])) else none) with | some o' => Out.ok Fl.nx (e'.set i (some o')) | none => .no) = _
          rw [appB_ok]
          by_cases h : os.length < 16777216
          · rw [if_pos h, if_pos (show decide (os.length < sizeLine) = true from decide_eq_true h)]
          · rw [if_neg h, if_neg (show ¬ decide (os.length < sizeLine) = true from fun z => h (of_decide_eq_true z))]
/-- .. at a path -/
def appC (i : Nat) (p : List Int) (o : O) : Out O → Out Fl
  | .ok x e => match setP (appO x) o p with
    | some o' => .ok .nx (e.set i (some o'))
    | none => .no
  | .exc x e => .exc x (e.set i (some o))
  | .no => .no
theorem ev_sAppP (i : Nat) (p : List Int) (m : M O) (e : Env) (o : O) (os : List O) (h : e[i]? = some (some o)) (hp : getP o p = some (.lst os)) : sAppQ i p m e = appC i p o (m (e.set i none)) := by
  unfold sAppQ
  rw [h]
  dsimp only
  rw [hp]
  dsimp only
  cases m (e.set i none) <;> rfl
def extB (i : Nat) : O → Option (Option O) → Env → Out Fl
  | .lst ys, some (some (.lst os)), e => if os.length + ys.length ≤ 16777216 then .ok .nx (e.set i (some (.lst (os ++ ys)))) else .no
  | _, _, _ => .no
@[simp] theorem extB_lst (i : Nat) (ys os : List O) (e : Env) : extB i (.lst ys) (some (some (.lst os))) e = if os.length + ys.length ≤ 16777216 then .ok .nx (e.set i (some (.lst (os ++ ys)))) else .no := (rfl)
def extA (i : Nat) (m : M O) (e : Env) : Option (Option O) → Out Fl
  | some (some (.lst _)) => (m e).bind fun x e' => extB i x e'[i]? e'
  | _ => .no
@[simp] theorem extA_lst (i : Nat) (m : M O) (e : Env) (os : List O) : extA i m e (some (some (.lst os))) = (m e).bind fun x e' => extB i x e'[i]? e' := (rfl)
@[simp] theorem ev_sExtQ (i : Nat) (m : M O) (e : Env) : sExtQ i m e = extA i m e e[i]? := by
  unfold sExtQ
  cases e[i]? with
  | none => rfl
  | some o => cases o with
    | none => rfl
    | some o => cases o with
      | val d => rfl
      | tup os => rfl
      | lst os =>
        dsimp only
        rw [ev_bnd, extA_lst]
        congr 1; funext x e'
        cases x with
        | val d => rfl
        | tup ys => rfl
        | lst ys =>
          cases e'[i]? with
          | none => rfl
          | some o => cases o with
            | none => rfl
            | some o => cases o with
              | val d => rfl
              | tup zs => rfl
              | lst zs =>
                rw [extB_lst]
                dsimp only
                by_cases h : zs.length + ys.length ≤ 16777216
                · rw [if_pos h, if_pos (show decide (zs.length + ys.length ≤ sizeLine) = true from decide_eq_true h)]
                · rw [if_neg h, if_neg (show ¬ decide (zs.length + ys.length ≤ sizeLine) = true from fun z => h (of_decide_eq_true z))]
def setIxB (i : Nat) (d : D) : D → Option (Option O) → Env → Out Fl
  | .int k, some (some (.lst os)), e => match ixN os.length k with
    | some j => .ok .nx (e.set i (some (.lst (os.set j (.val d)))))
    | none => .no
  | _, _, _ => .no
theorem setIxB_lst (i : Nat) (d : D) (k : Int) (os : List O) (e : Env) (j : Nat) (h : ixN os.length k = some j) : setIxB i d (.int k) (some (some (.lst os))) e = .ok .nx (e.set i (some (.lst (os.set j (.val d))))) := by
  unfold setIxB; dsimp only; rw [h]
@[simp] theorem ev_sSetIx (i : Nat) (k m : M D) (e : Env) : sSetIx i k m e = (m e).bind fun d e1 => hasO e1[i]? ((k e1).bind fun y e2 => setIxB i d y e2[i]? e2) := by
  unfold sSetIx; rw [ev_bnd]; congr 1; funext d e1
  show (match e1[i]? with | some (some _) => _ | _ => Out.no) = _
  cases e1[i]? with
  | none => rfl
  | some o => cases o with
    | none => rfl
    | some o =>
      dsimp only [hasO]
      rw [ev_bnd]
      congr 1; funext y e2
      cases y <;> try rfl
      cases e2[i]? with
      | none => rfl
      | some o => cases o with
        | none => rfl
        | some o => cases o <;> rfl
def tryB (isC : Str → Option Bool) (fok : Str → Bool) (i j : Nat) : Out Fl → Out Fl
  | .exc x e' => match isC x.cls with
    | some true => match fok x.cls && decide (i < e'.length) && decide (j < e'.length) && decide (i ≠ j) && decide (8 ≤ i) && decide (8 ≤ j), x.arg with
      | true, some d => .ok .nx ((e'.set i none).set j (some (.val d)))
      | _, _ => .no
    | some false => .exc x e'
    | none => .no
  | r => r
@[simp] theorem ev_sTryF (body : M Fl) (isC : Str → Option Bool) (fok : Str → Bool) (i j : Nat) (e : Env) : sTryF body isC fok i j e = tryB isC fok i j (body e) := by
  unfold sTryF tryB
  cases body e <;> rfl
@[simp] theorem tryB_ok (isC : Str → Option Bool) (fok : Str → Bool) (i j : Nat) (f : Fl) (e : Env) : tryB isC fok i j (.ok f e) = .ok f e := (rfl)
@[simp] theorem tryB_ite (isC : Str → Option Bool) (fok : Str → Bool) (i j : Nat) (c : Prop) [Decidable c] (x y : Out Fl) : tryB isC fok i j (if c then x else y) = if c then tryB isC fok i j x else tryB isC fok i j y := by split <;> rfl
@[simp] theorem vals_cons (d : D) (ds : List D) : vals (d :: ds) = .val d :: vals ds := (rfl)
def seqD : D → Env → Out (List D)
  | .list ds, e => .ok ds e
  | .tuple ds, e => .ok ds e
  | .str z, e => .ok (z.cps.toList.map fun c => .str ⟨#[c]⟩) e
  | _, _ => .no
@[simp] theorem seqD_list (ds : List D) (e : Env) : seqD (.list ds) e = .ok ds e := (rfl)
@[simp] theorem seqD_tuple (ds : List D) (e : Env) : seqD (.tuple ds) e = .ok ds e := (rfl)
@[simp] theorem seqD_str (z : Str) (e : Env) : seqD (.str z) e = .ok (z.cps.toList.map fun c => .str ⟨#[c]⟩) e := (rfl)
@[simp] theorem ev_mSeq (m : M D) (e : Env) : mSeq m e = (m e).bind seqD := by
  unfold mSeq; rw [ev_bnd]; congr 1; funext d e'; cases d <;> rfl
def rng1D : D → Env → Out (List D)
  | .int j, e => if bigOk j = true then .ok (rangeD 0 j.toNat) e else .no
  | _, _ => .no
@[simp] theorem rng1D_int (j : Int) (e : Env) : rng1D (.int j) e = if bigOk j = true then .ok (rangeD 0 j.toNat) e else .no := (rfl)
@[simp] theorem ev_mRng1 (m : M D) (e : Env) : mRng1 m e = (m e).bind rng1D := by
  unfold mRng1; rw [ev_bnd]; congr 1; funext d e'; cases d <;> try rfl
  rename_i j; show (if bigOk j then _ else _ : M _) e' = _; rw [rng1D_int]; split <;> rfl
def rng2D : D → D → Env → Out (List D)
  | .int i, .int j, e => if bigOk i = true ∧ bigOk j = true then .ok (rangeD i (j - i).toNat) e else .no
  | _, _, _ => .no
@[simp] theorem rng2D_int (i j : Int) (e : Env) : rng2D (.int i) (.int j) e = if bigOk i = true ∧ bigOk j = true then .ok (rangeD i (j - i).toNat) e else .no := (rfl)
@[simp] theorem ev_mRng2 (m n : M D) (e : Env) : mRng2 m n e = (m e).bind fun x e1 => (n e1).bind fun y e2 => rng2D x y e2 := by
  unfold mRng2; rw [ev_bnd]; congr 1; funext x e1; rw [ev_bnd]; congr 1; funext y e2
  cases x <;> cases y <;> try rfl
  rename_i i j; show (if (bigOk i && bigOk j) = true then _ else _ : M _) e2 = _; rw [rng2D_int]; simp only [Bool.and_eq_true]; split <;> rfl
def rng3D : D → D → D → Env → Out (List D)
  | .int i, .int j, .int k, e => if (bigOk i = true ∧ bigOk j = true) ∧ k = -1 then .ok (downD i (i - j).toNat) e else .no
  | _, _, _, _ => .no
@[simp] theorem rng3D_int (i j k : Int) (e : Env) : rng3D (.int i) (.int j) (.int k) e = if (bigOk i = true ∧ bigOk j = true) ∧ k = -1 then .ok (downD i (i - j).toNat) e else .no := (rfl)
@[simp] theorem ev_mRng3 (m n p : M D) (e : Env) : mRng3 m n p e = (m e).bind fun x e1 => (n e1).bind fun y e2 => (p e2).bind fun z e3 => rng3D x y z e3 := by
  unfold mRng3; rw [ev_bnd]; congr 1; funext x e1; rw [ev_bnd]; congr 1; funext y e2; rw [ev_bnd]; congr 1; funext z e3
  cases x <;> cases y <;> cases z <;> try rfl
  rename_i i j k; show (if (bigOk i && bigOk j && decide (k = -1)) = true then _ else _ : M _) e3 = _; rw [rng3D_int]; simp only [Bool.and_eq_true, decide_eq_true_eq]; split <;> rfl
def enumD : D → Env → Out (List D)
  | .list ds, e => .ok (numD 0 ds) e
  | .tuple ds, e => .ok (numD 0 ds) e
  | _, _ => .no
@[simp] theorem enumD_list (ds : List D) (e : Env) : enumD (.list ds) e = .ok (numD 0 ds) e := (rfl)
@[simp] theorem enumD_tuple (ds : List D) (e : Env) : enumD (.tuple ds) e = .ok (numD 0 ds) e := (rfl)
@[simp] theorem ev_mEnum (m : M D) (e : Env) : mEnum m e = (m e).bind enumD := by
  unfold mEnum; rw [ev_bnd]; congr 1; funext d e'; cases d <;> rfl
def zipO : D → D → Env → Out (List D)
  | .list xs, .list ys, e => .ok (zipD xs ys) e
  | .tuple xs, .tuple ys, e => .ok (zipD xs ys) e
  | .str z, .list ys, e => .ok (zipD (z.cps.toList.map fun c => .str ⟨#[c]⟩) ys) e
  | _, _, _ => .no
@[simp] theorem zipO_list (xs ys : List D) (e : Env) : zipO (.list xs) (.list ys) e = .ok (zipD xs ys) e := (rfl)
@[simp] theorem zipO_tuple (xs ys : List D) (e : Env) : zipO (.tuple xs) (.tuple ys) e = .ok (zipD xs ys) e := (rfl)
@[simp] theorem zipO_str (z : Str) (ys : List D) (e : Env) : zipO (.str z) (.list ys) e = .ok (zipD (z.cps.toList.map fun c => .str ⟨#[c]⟩) ys) e := (rfl)
@[simp] theorem ev_mZip (m n : M D) (e : Env) : mZip m n e = (m e).bind fun x e1 => (n e1).bind fun y e2 => zipO x y e2 := by
  unfold mZip; rw [ev_bnd]; congr 1; funext x e1; rw [ev_bnd]; congr 1; funext y e2
  cases x <;> cases y <;> rfl
@[simp] theorem ev_sFor (it : Itm) (tg : D → Env → Option Env) (body : M Fl) (e : Env) : sFor it tg body e = (it e).bind (forGo tg body) := by unfold sFor; exact ev_bnd _ _ _

@[simp] theorem frz_val (d : D) : (O.val d).frz = d := (rfl)
@[simp] theorem frz_lst (os : List O) : (O.lst os).frz = .list (frzs os) := (rfl)
@[simp] theorem frz_tup (os : List O) : (O.tup os).frz = .tuple (frzs os) := (rfl)
@[simp] theorem frzs_nil : frzs [] = [] := (rfl)
@[simp] theorem frzs_cons (o : O) (os : List O) : frzs (o :: os) = o.frz :: frzs os := (rfl)
theorem frzs_map : ∀ os : List O, frzs os = os.map O.frz
  | [] => rfl
  | o :: os => congrArg (o.frz :: ·) (frzs_map os)
@[simp] theorem frzs_append (a b : List O) : frzs (a ++ b) = frzs a ++ frzs b := by rw [frzs_map, frzs_map, frzs_map, List.map_append]
@[simp] theorem frzs_vals' (ds : List D) : frzs (vals ds) = ds := frzs_vals ds
@[simp] theorem ite_fok (c : Prop) [Decidable c] (a b : O) (f : List (Option O)) : (if c then FOut.ok a f else FOut.ok b f) = FOut.ok (if c then a else b) f := by split <;> rfl
@[simp] theorem ite_oval (c : Prop) [Decidable c] (a b : D) : (if c then O.val a else O.val b) = O.val (if c then a else b) := by split <;> rfl
@[simp] theorem ite_dbool (c : Prop) [Decidable c] (a b : Bool) : (if c then PyData.bool a else PyData.bool b) = PyData.bool (if c then a else b) := by split <;> rfl
@[simp] theorem vals_nil : vals [] = [] := (rfl)
@[simp] theorem vals_append (a b : List D) : vals a ++ vals b = vals (a ++ b) := (List.map_append ..).symm
@[simp] theorem vals_snoc (a : List D) (d : D) : vals a ++ [.val d] = vals (a ++ [d]) := vals_append a [d]
@[simp] theorem vals_length (a : List D) : (vals a).length = a.length := List.length_map ..
@[simp] theorem lenR_list (ds : List D) : lenR [.list ds] = some (.val (.int ds.length)) := (rfl)
@[simp] theorem lenR_tuple (ds : List D) : lenR [.tuple ds] = some (.val (.int ds.length)) := (rfl)
theorem lenR_str (z : Str) (h : z.length ≤ 16777216) : lenR [.str z] = some (.val (.int z.length)) := if_pos (decide_eq_true h)
@[simp] theorem biR_len (ds : List D) : biR .len ds = lenR ds := (rfl)
@[simp] theorem biR_all (ds : List D) : biR .all ds = allR ds := (rfl)
@[simp] theorem biR_any (ds : List D) : biR .any ds = anyR ds := (rfl)
@[simp] theorem biR_sum (ds : List D) : biR .sum ds = sumR ds := (rfl)
@[simp] theorem biR_abs (ds : List D) : biR .abs ds = absR ds := (rfl)
@[simp] theorem biR_min (ds : List D) : biR .min ds = minR ds := (rfl)
@[simp] theorem biR_max (ds : List D) : biR .max ds = maxR ds := (rfl)
@[simp] theorem biR_int (ds : List D) : biR .int ds = intR ds := (rfl)
@[simp] theorem biR_str (ds : List D) : biR .str ds = strR ds := (rfl)
@[simp] theorem biR_list (ds : List D) : biR .list ds = listR ds := (rfl)
@[simp] theorem biR_tuple (ds : List D) : biR .tuple ds = tupleR ds := (rfl)
@[simp] theorem boolsD_map {α : Type} (f : α → Bool) : ∀ l : List α, boolsD (l.map fun x => .bool (f x)) = some (l.map f)
  | [] => rfl
  | x :: l => by
    show (boolsD (l.map fun x => .bool (f x))).map (f x :: ·) = _
    rw [boolsD_map f l]; rfl
@[simp] theorem allR_map {α : Type} (f : α → Bool) (l : List α) : allR [.list (l.map fun x => .bool (f x))] = some (.val (.bool (l.all f))) := by
  show (boolsD _).map _ = _
  rw [boolsD_map, Option.map_some]
  simp [List.all_map, Function.comp_def]
@[simp] theorem anyR_map {α : Type} (f : α → Bool) (l : List α) : anyR [.list (l.map fun x => .bool (f x))] = some (.val (.bool (l.any f))) := by
  show (boolsD _).map _ = _
  rw [boolsD_map, Option.map_some]
  simp [List.any_map, Function.comp_def]
@[simp] theorem intsD_map {α : Type} (f : α → Int) : ∀ l : List α, intsD (l.map fun x => .int (f x)) = some (l.map f)
  | [] => rfl
  | x :: l => by
    show (intsD (l.map fun x => .int (f x))).map (f x :: ·) = _
    rw [intsD_map f l]; rfl
@[simp] theorem sumR_map {α : Type} (f : α → Int) (l : List α) : sumR [.list (l.map fun x => .int (f x))] = some (.val (.int (l.map f).sum)) := by
  show (intsD _).map _ = _
  rw [intsD_map]; rfl
@[simp] theorem absR_int (i : Int) : absR [.int i] = some (.val (.int (if i < 0 then -i else i))) := (rfl)
@[simp] theorem minR_int (i j : Int) : minR [.int i, .int j] = some (.val (.int (if j < i then j else i))) := (rfl)
@[simp] theorem maxR_int (i j : Int) : maxR [.int i, .int j] = some (.val (.int (if j > i then j else i))) := (rfl)
@[simp] theorem intR_int (i : Int) : intR [.int i] = some (.val (.int i)) := (rfl)
@[simp] theorem intR_bool (b : Bool) : intR [.bool b] = some (.val (.int (if b then 1 else 0))) := (rfl)
@[simp] theorem listR_list (ds : List D) : listR [.list ds] = some (.new ds) := (rfl)
@[simp] theorem listR_tuple (ds : List D) : listR [.tuple ds] = some (.new ds) := (rfl)
@[simp] theorem tupleR_list (ds : List D) : tupleR [.list ds] = some (.val (.tuple ds)) := (rfl)
@[simp] theorem tupleR_tuple (ds : List D) : tupleR [.tuple ds] = some (.val (.tuple ds)) := (rfl)
@[simp] theorem ixR_list (ds : List D) (i : Int) : ixR (.list ds) (.int i) = atI ds i := (rfl)
@[simp] theorem ixR_tuple (ds : List D) (i : Int) : ixR (.tuple ds) (.int i) = atI ds i := (rfl)
@[simp] theorem slR_list (ds : List D) (lo hi : Option Int) : slR (.list ds) lo hi = some (.new (cutD ds lo hi)) := (rfl)
@[simp] theorem slR_tuple (ds : List D) (lo hi : Option Int) : slR (.tuple ds) lo hi = some (.val (.tuple (cutD ds lo hi))) := (rfl)
@[simp] theorem truR_bool (b : Bool) : truR (.bool b) = some b := (rfl)
@[simp] theorem truR_none : truR .none = some false := (rfl)
@[simp] theorem bin_add (i j : Int) : binR .Add (.int i) (.int j) = some (.val (.int (i + j))) := (rfl)
@[simp] theorem bin_sub (i j : Int) : binR .Sub (.int i) (.int j) = some (.val (.int (i - j))) := (rfl)
theorem bin_tup (a b : List D) (h : a.length + b.length ≤ 16777216) : binR .Add (.tuple a) (.tuple b) = some (.val (.tuple (a ++ b))) := if_pos (decide_eq_true h)
theorem bin_lst (a b : List D) (h : a.length + b.length ≤ 16777216) : binR .Add (.list a) (.list b) = some (.new (a ++ b)) := if_pos (decide_eq_true h)
theorem bin_str (a b : Str) (h : a.length + b.length ≤ 16777216) : binR .Add (.str a) (.str b) = some (.val (.str (a ++ b))) := if_pos (decide_eq_true h)
theorem bin_mod (i j : Int) (h : 0 < j) : binR .Mod (.int i) (.int j) = some (.val (.int (i % j))) := if_pos (decide_eq_true h)
theorem bin_div (i j : Int) (h : 0 < j) (h2 : j < 1073741824) : binR .FloorDiv (.int i) (.int j) = some (.val (.int (i / j))) := if_pos (by rw [decide_eq_true h, decide_eq_true h2]; rfl)
theorem bin_mul (i j : Int) (h : -(2 ^ 64) < i) (h2 : i < 2 ^ 64) : binR .Mult (.int i) (.int j) = some (.val (.int (i * j))) := if_pos (by unfold mulOk; rw [decide_eq_true h, decide_eq_true h2]; rfl)
theorem bin_pow (i : Int) (k : Nat) (h : k ≤ 1000000) (h2 : i.natAbs < 2 ^ 64) : binR .Pow (.int i) (.int (k : Int)) = some (.val (.int (i ^ k))) := by
  refine (if_pos ?_).trans ?_
  · rw [decide_eq_true (Int.natCast_nonneg k), decide_eq_true (by omega : (k : Int) ≤ 1000000), decide_eq_true h2]; rfl
  · rw [Int.toNat_natCast]
@[simp] theorem cmp_lt (i j : Int) : cmpR .Lt (.int i) (.int j) = some (decide (i < j)) := (rfl)
@[simp] theorem cmp_le' (i j : Int) : cmpR .LtE (.int i) (.int j) = some (decide (i ≤ j)) := (rfl)
@[simp] theorem cmp_gt (i j : Int) : cmpR .Gt (.int i) (.int j) = some (decide (j < i)) := (rfl)
@[simp] theorem cmp_ge (i j : Int) : cmpR .GtE (.int i) (.int j) = some (decide (j ≤ i)) := (rfl)
@[simp] theorem cmp_eq (x y : D) : cmpR .Eq x y = eqR x y := (rfl)
@[simp] theorem cmp_ne (x y : D) : cmpR .NotEq x y = (eqR x y).map (!·) := (rfl)
@[simp] theorem cmp_in (x y : D) : cmpR .In x y = inR x y := (rfl)
@[simp] theorem cmp_notin (x y : D) : cmpR .NotIn x y = (inR x y).map (!·) := (rfl)
def isNn : D → Bool
  | .none => true
  | _ => false
@[simp] theorem cmp_is (x : D) : cmpR .Is x .none = some (isNn x) := by cases x <;> rfl
@[simp] theorem cmp_isnot (x : D) : cmpR .IsNot x .none = some (!isNn x) := by cases x <;> rfl
@[simp] theorem isNn_none : isNn .none = true := (rfl)
@[simp] theorem isNn_bool (b : Bool) : isNn (.bool b) = false := (rfl)
@[simp] theorem isNn_int (i : Int) : isNn (.int i) = false := (rfl)
@[simp] theorem isNn_str (z : Str) : isNn (.str z) = false := (rfl)
@[simp] theorem isNn_list (l : List D) : isNn (.list l) = false := (rfl)
@[simp] theorem isNn_tuple (l : List D) : isNn (.tuple l) = false := (rfl)
@[simp] theorem eqR_int (i j : Int) : eqR (.int i) (.int j) = some (decide (i = j)) := (rfl)
@[simp] theorem eqR_str (i j : Str) : eqR (.str i) (.str j) = some (decide (i = j)) := (rfl)
theorem cmp_lt_tup (a b : List Int) : cmpR .Lt (.tuple (a.map fun x => .int x)) (.tuple (b.map fun x => .int x)) = some (HT.lexLt a b) := by
  show (match intsD (a.map fun x => .int x), intsD (b.map fun x => .int x) with | some ns, some ms => some (HT.lexLt ns ms) | _, _ => none) = _
  rw [intsD_map, intsD_map]
  simp

@[simp] theorem isi_none_int : isiR .none "int" = some false := by show kitB "NoneType" "int" = some false; decide +kernel
@[simp] theorem isi_none_bool : isiR .none "bool" = some false := by show kitB "NoneType" "bool" = some false; decide +kernel
@[simp] theorem isi_none_str : isiR .none "str" = some false := by show kitB "NoneType" "str" = some false; decide +kernel
@[simp] theorem isi_none_list : isiR .none "list" = some false := by show kitB "NoneType" "list" = some false; decide +kernel
@[simp] theorem isi_none_tuple : isiR .none "tuple" = some false := by show kitB "NoneType" "tuple" = some false; decide +kernel
@[simp] theorem isi_none_dict : isiR .none "dict" = some false := by show kitB "NoneType" "dict" = some false; decide +kernel
@[simp] theorem isi_bool_int (b : Bool) : isiR (.bool b) "int" = some true := by show kitB "bool" "int" = some true; decide +kernel
@[simp] theorem isi_bool_bool (b : Bool) : isiR (.bool b) "bool" = some true := by show kitB "bool" "bool" = some true; decide +kernel
@[simp] theorem isi_bool_str (b : Bool) : isiR (.bool b) "str" = some false := by show kitB "bool" "str" = some false; decide +kernel
@[simp] theorem isi_bool_list (b : Bool) : isiR (.bool b) "list" = some false := by show kitB "bool" "list" = some false; decide +kernel
@[simp] theorem isi_bool_tuple (b : Bool) : isiR (.bool b) "tuple" = some false := by show kitB "bool" "tuple" = some false; decide +kernel
@[simp] theorem isi_bool_dict (b : Bool) : isiR (.bool b) "dict" = some false := by show kitB "bool" "dict" = some false; decide +kernel
@[simp] theorem isi_int_int (i : Int) : isiR (.int i) "int" = some true := by show kitB "int" "int" = some true; decide +kernel
@[simp] theorem isi_int_bool (i : Int) : isiR (.int i) "bool" = some false := by show kitB "int" "bool" = some false; decide +kernel
@[simp] theorem isi_int_str (i : Int) : isiR (.int i) "str" = some false := by show kitB "int" "str" = some false; decide +kernel
@[simp] theorem isi_int_list (i : Int) : isiR (.int i) "list" = some false := by show kitB "int" "list" = some false; decide +kernel
@[simp] theorem isi_int_tuple (i : Int) : isiR (.int i) "tuple" = some false := by show kitB "int" "tuple" = some false; decide +kernel
@[simp] theorem isi_int_dict (i : Int) : isiR (.int i) "dict" = some false := by show kitB "int" "dict" = some false; decide +kernel
@[simp] theorem isi_str_int (z : Str) : isiR (.str z) "int" = some false := by show kitB "str" "int" = some false; decide +kernel
@[simp] theorem isi_str_bool (z : Str) : isiR (.str z) "bool" = some false := by show kitB "str" "bool" = some false; decide +kernel
@[simp] theorem isi_str_str (z : Str) : isiR (.str z) "str" = some true := by show kitB "str" "str" = some true; decide +kernel
@[simp] theorem isi_str_list (z : Str) : isiR (.str z) "list" = some false := by show kitB "str" "list" = some false; decide +kernel
@[simp] theorem isi_str_tuple (z : Str) : isiR (.str z) "tuple" = some false := by show kitB "str" "tuple" = some false; decide +kernel
@[simp] theorem isi_str_dict (z : Str) : isiR (.str z) "dict" = some false := by show kitB "str" "dict" = some false; decide +kernel
@[simp] theorem isi_list_int (l : List D) : isiR (.list l) "int" = some false := by show kitB "list" "int" = some false; decide +kernel
@[simp] theorem isi_list_bool (l : List D) : isiR (.list l) "bool" = some false := by show kitB "list" "bool" = some false; decide +kernel
@[simp] theorem isi_list_str (l : List D) : isiR (.list l) "str" = some false := by show kitB "list" "str" = some false; decide +kernel
@[simp] theorem isi_list_list (l : List D) : isiR (.list l) "list" = some true := by show kitB "list" "list" = some true; decide +kernel
@[simp] theorem isi_list_tuple (l : List D) : isiR (.list l) "tuple" = some false := by show kitB "list" "tuple" = some false; decide +kernel
@[simp] theorem isi_list_dict (l : List D) : isiR (.list l) "dict" = some false := by show kitB "list" "dict" = some false; decide +kernel
@[simp] theorem isi_tuple_int (l : List D) : isiR (.tuple l) "int" = some false := by show kitB "tuple" "int" = some false; decide +kernel
@[simp] theorem isi_tuple_bool (l : List D) : isiR (.tuple l) "bool" = some false := by show kitB "tuple" "bool" = some false; decide +kernel
@[simp] theorem isi_tuple_str (l : List D) : isiR (.tuple l) "str" = some false := by show kitB "tuple" "str" = some false; decide +kernel
@[simp] theorem isi_tuple_list (l : List D) : isiR (.tuple l) "list" = some false := by show kitB "tuple" "list" = some false; decide +kernel
@[simp] theorem isi_tuple_tuple (l : List D) : isiR (.tuple l) "tuple" = some true := by show kitB "tuple" "tuple" = some true; decide +kernel
@[simp] theorem isi_tuple_dict (l : List D) : isiR (.tuple l) "dict" = some false := by show kitB "tuple" "dict" = some false; decide +kernel
@[simp] theorem isi_dict_int (m : List (D × D)) : isiR (.dict m) "int" = some false := by show kitB "dict" "int" = some false; decide +kernel
@[simp] theorem isi_dict_bool (m : List (D × D)) : isiR (.dict m) "bool" = some false := by show kitB "dict" "bool" = some false; decide +kernel
@[simp] theorem isi_dict_str (m : List (D × D)) : isiR (.dict m) "str" = some false := by show kitB "dict" "str" = some false; decide +kernel
@[simp] theorem isi_dict_list (m : List (D × D)) : isiR (.dict m) "list" = some false := by show kitB "dict" "list" = some false; decide +kernel
@[simp] theorem isi_dict_tuple (m : List (D × D)) : isiR (.dict m) "tuple" = some false := by show kitB "dict" "tuple" = some false; decide +kernel
@[simp] theorem isi_dict_dict (m : List (D × D)) : isiR (.dict m) "dict" = some true := by show kitB "dict" "dict" = some true; decide +kernel

def toF (n : Nat) : Out Fl → FOut
  | .ok .nx e => .ok (.val .none) (e.take n)
  | .ok (.ret o) e => .ok o (e.take n)
  | .exc x e => .exc x (e.take n)
  | _ => .no
@[simp] theorem toF_nx (n : Nat) (e : Env) : toF n (.ok .nx e) = .ok (.val .none) (e.take n) := (rfl)
@[simp] theorem toF_ret (n : Nat) (o : O) (e : Env) : toF n (.ok (.ret o) e) = .ok o (e.take n) := (rfl)
@[simp] theorem toF_exc (n : Nat) (x : Exc) (e : Env) : toF n (.exc x e) = .exc x (e.take n) := (rfl)
@[simp] theorem toF_no (n : Nat) : toF n .no = .no := (rfl)
@[simp] theorem toF_ite (n : Nat) (c : Prop) [Decidable c] (x y : Out Fl) : toF n (if c then x else y) = if c then toF n x else toF n y := by split <;> rfl
theorem denF_to (den : Den) (c : C) (n m : Nat) (os : List O) (h : os.length = n) : denF den c n m os = toF n ((mean den c).s (os.map some ++ List.replicate m none)) := by
  unfold denF
  rw [if_pos h]
  cases (mean den c).s (os.map some ++ List.replicate m none) with
  | no => rfl
  | exc x e => rfl
  | ok f e => cases f <;> rfl
theorem denT_at {tab : List FE} {f : Str} {fe : FE} (h : (tab.find? fun fe => fe.name == f) = some fe) (n : Nat) (os : List O) (hl : os.length = fe.ps.length) : denT tab (n + 1) f os = toF fe.ps.length ((mean (denT tab n) fe.code).s (os.map some ++ List.replicate (fe.N.length - fe.ps.length) none)) := by
  show (match tab.find? (fun fe => fe.name == f) with | some fe => denF (denT tab n) fe.code fe.ps.length (fe.N.length - fe.ps.length) os | none => .no) = _
  rw [h]
  exact denF_to _ _ _ _ _ hl
@[simp] theorem atI_nat {α : Type} (xs : List α) (k : Nat) : atI xs (k : Int) = xs[k]? := by
  unfold atI ixN
  rw [if_pos (by omega)]
  by_cases h : k < xs.length
  · rw [if_pos (by omega)]; rfl
  · rw [if_neg (by omega), List.getElem?_eq_none (by omega)]; rfl
@[simp] theorem atI_zero {α : Type} (xs : List α) : atI xs 0 = xs[0]? := atI_nat xs 0
@[simp] theorem atI_one {α : Type} (xs : List α) : atI xs 1 = xs[1]? := atI_nat xs 1
@[simp] theorem atI_two {α : Type} (xs : List α) : atI xs 2 = xs[2]? := atI_nat xs 2
@[simp] theorem atI_three {α : Type} (xs : List α) : atI xs 3 = xs[3]? := atI_nat xs 3
@[simp] theorem atI_four {α : Type} (xs : List α) : atI xs 4 = xs[4]? := atI_nat xs 4
theorem atI_last {α : Type} (xs : List α) : atI xs (-1) = xs.getLast? := by
  unfold atI ixN
  rw [if_neg (by omega)]
  cases xs with
  | nil => rfl
  | cons x xs =>
    rw [if_pos (by rw [List.length_cons]; omega), List.getLast?_eq_getElem?]
    show (x :: xs)[(-1 + ((x :: xs).length : Int)).toNat]? = _
    congr 1
    rw [List.length_cons]; omega
theorem cut_to (xs : List D) (k : Nat) : cutD xs none (some (k : Int)) = xs.take k := by
  unfold cutD
  rw [HT.sIx_none, HT.sIx_nat, List.drop_zero, Nat.sub_zero, List.take_eq_take_iff]
  omega
theorem cut_from (xs : List D) (k : Nat) : cutD xs (some (k : Int)) none = xs.drop k := by
  unfold cutD
  rw [HT.sIx_none, HT.sIx_nat]
  by_cases h : k ≤ xs.length
  · rw [Nat.min_eq_left h, List.take_of_length_le (by rw [List.length_drop]; omega)]
  · rw [Nat.min_eq_right (by omega), List.drop_of_length_le (by omega), List.drop_of_length_le (by omega)]; simp
@[simp] theorem getElem?_vals (ds : List D) (i : Nat) : (vals ds)[i]? = ds[i]?.map O.val := List.getElem?_map ..
@[simp] theorem wipeE_nil (e : Env) : wipeE e [] = e := (rfl)
@[simp] theorem wipeE_cons (e : Env) (v : Nat) (vs : List Nat) : wipeE e (v :: vs) = (wipeE e vs).set v none := (rfl)
@[simp] theorem backE_nil (e0 e : Env) : backE e0 e [] = e := (rfl)
@[simp] theorem backE_cons (e0 e : Env) (v : Nat) (vs : List Nat) : backE e0 e (v :: vs) = (backE e0 e vs).set v ((e0[v]?).getD none) := (rfl)
theorem numD_map {τ : Type} (tD : τ → D) : ∀ (l : List τ) (k : Nat), numD k (l.map tD) = (l.zipIdx k).map fun q => .tuple [.int (q.2 : Int), tD q.1]
  | [], _ => rfl
  | t :: l, k => by
    show _ :: numD (k + 1) (l.map tD) = _
    rw [numD_map tD l (k + 1), List.zipIdx_cons, List.map_cons]
theorem zipD_map {τ υ : Type} (f : τ → D) (g : υ → D) : ∀ (l : List τ) (m : List υ), zipD (l.map f) (m.map g) = (l.zip m).map fun q => .tuple [f q.1, g q.2]
  | [], _ => rfl
  | _ :: _, [] => rfl
  | x :: w, b :: l => by
    show _ :: zipD (w.map f) (l.map g) = _
    rw [zipD_map f g w l]; rfl
theorem rangeD_eq (n : Nat) : rangeD 0 n = (List.range n).map fun (k : Nat) => .int (k : Int) := by
  unfold rangeD
  exact List.map_congr_left fun k _ => by rw [Int.zero_add]
/-- a for loop that goes to its end; I: of what is still to be walked, and the state -/
theorem forGo_fold {σ τ χ : Type} (enc : σ → χ → Env) (tD : τ → D) (f : σ → τ → σ) {tg : D → Env → Option Env} {body : M Fl} (I : List τ → σ → Prop) :
    ∀ (l : List τ), (∀ s x t r, t ∈ l → I (t :: r) s → I r (f s t) ∧ ∃ e1 x', tg (tD t) (enc s x) = some e1 ∧ (body e1 = .ok .nx (enc (f s t) x') ∨ body e1 = .ok .ct (enc (f s t) x'))) →
    ∀ s x, I l s → I [] (l.foldl f s) ∧ ∃ x', forGo tg body (l.map tD) (enc s x) = .ok .nx (enc (l.foldl f s) x')
  | [], _, s, x, i => ⟨i, x, rfl⟩
  | t :: l, h, s, x, i => by
    obtain ⟨i1, e1, x1, h1, h2⟩ := h s x t l List.mem_cons_self i
    obtain ⟨i2, x2, h3⟩ := forGo_fold enc tD f I l (fun s x t r ht => h s x t r (List.mem_cons_of_mem _ ht)) (f s t) x1 i1
    refine ⟨i2, x2, ?_⟩
    show (match tg (tD t) (enc s x) with
      | some e1 => match body e1 with
        | .ok .nx e2 => forGo tg body (l.map tD) e2
        | .ok .ct e2 => forGo tg body (l.map tD) e2
        | .ok .brk e2 => .ok .nx e2
        | .ok (.ret o) e2 => .ok (.ret o) e2
        | .exc x e2 => .exc x e2
        | .no => .no
      | none => .no) = _
    rw [h1]
    dsimp only
    rcases h2 with h2 | h2 <;> rw [h2] <;> exact h3
/-- .. that may end early -/
def foldS {σ τ ρ : Type} (f : σ → τ → Sum σ ρ) : List τ → σ → Sum σ ρ
  | [], s => .inl s
  | t :: l, s => match f s t with
    | .inl s' => foldS f l s'
    | .inr r => .inr r
theorem forGo_foldS {σ τ χ ρ : Type} (enc : σ → χ → Env) (tD : τ → D) (f : σ → τ → Sum σ ρ) (out : ρ → Env → Out Fl) {tg : D → Env → Option Env} {body : M Fl} (I : List τ → σ → Prop)
    (hout : ∀ r e, (∃ o, out r e = .ok (.ret o) e) ∨ ∃ x, out r e = .exc x e) :
    ∀ (l : List τ), (∀ s x t r, t ∈ l → I (t :: r) s → ∃ e1, tg (tD t) (enc s x) = some e1 ∧ match f s t with
      | .inl s' => I r s' ∧ ∃ x', body e1 = .ok .nx (enc s' x') ∨ body e1 = .ok .ct (enc s' x')
      | .inr r => ∃ s' x', body e1 = out r (enc s' x')) →
    ∀ s x, I l s → match foldS f l s with
      | .inl s' => I [] s' ∧ ∃ x', forGo tg body (l.map tD) (enc s x) = .ok .nx (enc s' x')
      | .inr r => ∃ s' x', forGo tg body (l.map tD) (enc s x) = out r (enc s' x')
  | [], _, s, x, i => ⟨i, x, rfl⟩
  | t :: l, h, s, x, i => by
    obtain ⟨e1, h1, h2⟩ := h s x t l List.mem_cons_self i
    have red : forGo tg body ((t :: l).map tD) (enc s x) = (match body e1 with
        | .ok .nx e2 => forGo tg body (l.map tD) e2
        | .ok .ct e2 => forGo tg body (l.map tD) e2
        | .ok .brk e2 => .ok .nx e2
        | .ok (.ret o) e2 => .ok (.ret o) e2
        | .exc x e2 => .exc x e2
        | .no => .no) := by
      show (match tg (tD t) (enc s x) with
        | some e1 => match body e1 with
          | .ok .nx e2 => forGo tg body (l.map tD) e2
          | .ok .ct e2 => forGo tg body (l.map tD) e2
          | .ok .brk e2 => .ok .nx e2
          | .ok (.ret o) e2 => .ok (.ret o) e2
          | .exc x e2 => .exc x e2
          | .no => .no
        | none => .no) = _
      rw [h1]
    rw [red]
    unfold foldS
    cases q : f s t with
    | inl s' =>
      rw [q] at h2
      obtain ⟨i1, x1, h2⟩ := h2
      have ih := forGo_foldS enc tD f out I hout l (fun s x t r ht => h s x t r (List.mem_cons_of_mem _ ht)) s' x1 i1
      dsimp only
      rcases h2 with h2 | h2 <;> rw [h2] <;> exact ih
    | inr r =>
      rw [q] at h2
      obtain ⟨s', x', h2⟩ := h2
      refine ⟨s', x', ?_⟩
      rw [h2]
      rcases hout r (enc s' x') with ⟨o, e⟩ | ⟨y, e⟩ <;> rw [e]
/-- a comprehension: the state may change, what is not asked for is left out -/
def foldC {σ τ : Type} (f : σ → τ → σ × Option D) : List τ → σ → σ × List D
  | [], s => (s, [])
  | t :: l, s => let r := f s t; let q := foldC f l r.1; (q.1, r.2.toList ++ q.2)
theorem lcGo_fold {σ τ : Type} (enc : σ → Env) (tD : τ → D) (f : σ → τ → σ × Option D) {ws : List Nat} {tg : D → Env → Option Env} {cond : M Bool} {elt : M D} (I : σ → Prop)
    (hw : ∀ s, wipeE (enc s) ws = enc s) :
    ∀ (l : List τ), (∀ s t, t ∈ l → I s → I (f s t).1 ∧ ∃ e1 e2, tg (tD t) (enc s) = some e1 ∧ match (f s t).2 with
      | some d => cond e1 = .ok true e2 ∧ ∃ e3, elt e2 = .ok d e3 ∧ wipeE e3 ws = enc (f s t).1
      | none => cond e1 = .ok false e2 ∧ wipeE e2 ws = enc (f s t).1) →
    ∀ s e acc, I s → wipeE e ws = enc s → acc.length + l.length ≤ 16777216 → I (foldC f l s).1 ∧ ∃ e', lcGo ws tg cond elt (l.map tD) e acc = .ok (acc ++ (foldC f l s).2) e' ∧ wipeE e' ws = enc (foldC f l s).1 ∧ (e' = e ∨ e' = enc (foldC f l s).1)
  | [], _, s, e, acc, i, he, _ => ⟨i, e, by show lcGo ws tg cond elt [] e acc = .ok (acc ++ []) e; rw [List.append_nil]; rfl, he, .inl rfl⟩
  | t :: l, h, s, e, acc, i, he, hl => by
    obtain ⟨i1, e1, e2, h1, h2⟩ := h s t List.mem_cons_self i
    rw [List.length_cons] at hl
    have red : lcGo ws tg cond elt ((t :: l).map tD) e acc = (match cond e1 with
        | .ok true e2 => match elt e2 with
          | .ok x e3 => if decide (acc.length < sizeLine) then lcGo ws tg cond elt (l.map tD) (wipeE e3 ws) (acc ++ [x]) else .no
          | _ => .no
        | .ok false e2 => lcGo ws tg cond elt (l.map tD) (wipeE e2 ws) acc
        | _ => .no) := by
      show (match tg (tD t) (wipeE e ws) with
        | some e1 => match cond e1 with
          | .ok true e2 => match elt e2 with
            | .ok x e3 => if decide (acc.length < sizeLine) then lcGo ws tg cond elt (l.map tD) (wipeE e3 ws) (acc ++ [x]) else .no
            | _ => .no
          | .ok false e2 => lcGo ws tg cond elt (l.map tD) (wipeE e2 ws) acc
          | _ => .no
        | none => .no) = _
      rw [he, h1]
    rw [red]
    show I (foldC f l (f s t).1).1 ∧ ∃ e', _ = Out.ok (acc ++ ((f s t).2.toList ++ (foldC f l (f s t).1).2)) e' ∧ wipeE e' ws = enc (foldC f l (f s t).1).1 ∧ (e' = e ∨ e' = enc (foldC f l (f s t).1).1)
    cases q : (f s t).2 with
    | some d =>
      rw [q] at h2
      obtain ⟨k1, e3, k2, k3⟩ := h2
      rw [k1]
      dsimp only
      rw [k2]
      dsimp only
      rw [if_pos (show decide (acc.length < sizeLine) = true from decide_eq_true (show acc.length < 16777216 by omega)), k3]
      obtain ⟨i2, e', r1, r2, r3⟩ := lcGo_fold enc tD f I hw l (fun s t ht => h s t (List.mem_cons_of_mem _ ht)) (f s t).1 (enc (f s t).1) (acc ++ [d]) i1 (hw _) (by rw [List.length_append, List.length_singleton]; omega)
      refine ⟨i2, e', ?_, r2, ?_⟩
      · rw [r1, List.append_assoc]; rfl
      · rcases r3 with r3 | r3
        · exact .inr (by rw [r3, ← r2, r3, hw])
        · exact .inr r3
    | none =>
      rw [q] at h2
      obtain ⟨k1, k3⟩ := h2
      rw [k1]
      dsimp only
      rw [k3]
      obtain ⟨i2, e', r1, r2, r3⟩ := lcGo_fold enc tD f I hw l (fun s t ht => h s t (List.mem_cons_of_mem _ ht)) (f s t).1 (enc (f s t).1) acc i1 (hw _) (by omega)
      refine ⟨i2, e', ?_, r2, ?_⟩
      · rw [r1]; rfl
      · rcases r3 with r3 | r3
        · exact .inr (by rw [r3, ← r2, r3, hw])
        · exact .inr r3
theorem mLc_fold {σ τ : Type} (enc : σ → Env) (tD : τ → D) (f : σ → τ → σ × Option D) {it : Itm} {ws : List Nat} {tg : D → Env → Option Env} {cond : M Bool} {elt : M D} (I : σ → Prop) {e e0 : Env} (l : List τ) (s : σ)
    (hit : it e = .ok (l.map tD) e0) (hp : ws.all (plainAt e0) = true) (hw : ∀ s, wipeE (enc s) ws = enc s) (he : wipeE e0 ws = enc s) (hb : backE e0 e0 ws = backE e0 (enc s) ws) (i : I s) (hl : l.length ≤ 16777216)
    (h : ∀ s t, t ∈ l → I s → I (f s t).1 ∧ ∃ e1 e2, tg (tD t) (enc s) = some e1 ∧ match (f s t).2 with
      | some d => cond e1 = .ok true e2 ∧ ∃ e3, elt e2 = .ok d e3 ∧ wipeE e3 ws = enc (f s t).1
      | none => cond e1 = .ok false e2 ∧ wipeE e2 ws = enc (f s t).1) :
    I (foldC f l s).1 ∧ mLc it ws tg cond elt e = .ok (.lst (vals (foldC f l s).2)) (backE e0 (enc (foldC f l s).1) ws) := by
  obtain ⟨i2, e', r1, r2, r3⟩ := lcGo_fold enc tD f I hw l h s e0 [] i he (by simpa using hl)
  refine ⟨i2, ?_⟩
  unfold mLc
  rw [hit]
  dsimp only
  rw [if_pos hp, r1]
  dsimp only
  rw [List.nil_append]
  rcases r3 with r3 | r3
  · rw [r3, hb, ← he, ← r2, r3]
  · rw [r3]
/-- .. over a state that stays, all asked for -/
theorem mLc_mapT {τ : Type} (tD : τ → D) (f : τ → D) {it : Itm} {ws : List Nat} {tg : D → Env → Option Env} {cond : M Bool} {elt : M D} {e e0 : Env} (l : List τ)
    (hit : it e = .ok (l.map tD) e0) (hp : ws.all (plainAt e0) = true) (hw : wipeE (wipeE e0 ws) ws = wipeE e0 ws) (hb : backE e0 e0 ws = e0) (hb2 : backE e0 (wipeE e0 ws) ws = e0) (hl : l.length ≤ 16777216)
    (h : ∀ t, t ∈ l → ∃ e1 e2 e3, tg (tD t) (wipeE e0 ws) = some e1 ∧ cond e1 = .ok true e2 ∧ elt e2 = .ok (f t) e3 ∧ wipeE e3 ws = wipeE e0 ws) :
    mLc it ws tg cond elt e = .ok (.lst (vals (l.map f))) e0 := by
  have k := (mLc_fold (σ := Unit) (fun _ => wipeE e0 ws) tD (fun s t => ((), some (f t))) (fun _ => True) l () hit hp (fun _ => hw) rfl (by rw [hb, hb2]) trivial hl fun s t ht _ => by
    obtain ⟨e1, e2, e3, h1, h2, h3, h4⟩ := h t ht
    exact ⟨trivial, e1, e2, h1, h2, e3, h3, h4⟩).2
  rw [hb2] at k
  rw [k]
  have : ∀ l : List τ, (foldC (fun (s : Unit) t => ((), some (f t))) l ()).2 = l.map f := fun l => by
    induction l with
    | nil => rfl
    | cons t l ih => show _ ++ (foldC _ l ()).2 = _; rw [ih]; rfl
  rw [this]
/-- .. whose parts leave the state as it is -/
theorem mLc_pure {τ : Type} (tD : τ → D) (f : τ → D) {it : Itm} {ws : List Nat} {tg : D → Env → Option Env} {cond : M Bool} {elt : M D} {e e0 : Env} (l : List τ)
    (hit : it e = .ok (l.map tD) e0) (hp : ws.all (plainAt e0) = true) (hw : wipeE (wipeE e0 ws) ws = wipeE e0 ws) (hb : backE e0 e0 ws = e0) (hb2 : backE e0 (wipeE e0 ws) ws = e0) (hl : l.length ≤ 16777216)
    (h : ∀ t, t ∈ l → ∃ e1, tg (tD t) (wipeE e0 ws) = some e1 ∧ wipeE e1 ws = wipeE e0 ws ∧ cond e1 = .ok true e1 ∧ elt e1 = .ok (f t) e1) :
    mLc it ws tg cond elt e = .ok (.lst (vals (l.map f))) e0 :=
  mLc_mapT tD f l hit hp hw hb hb2 hl fun t ht => by
    obtain ⟨e1, h1, h2, h3, h4⟩ := h t ht
    exact ⟨e1, e1, e1, h1, h3, h4, h2⟩
theorem wipe_len (e : Env) : ∀ ws : List Nat, (wipeE e ws).length = e.length
  | [] => rfl
  | v :: vs => by rw [wipeE_cons, List.length_set, wipe_len e vs]
theorem back_len (e0 e : Env) : ∀ ws : List Nat, (backE e0 e ws).length = e.length
  | [] => rfl
  | v :: vs => by rw [backE_cons, List.length_set, back_len e0 e vs]
theorem wipe_get (e : Env) : ∀ (ws : List Nat) (i : Nat), (wipeE e ws)[i]? = if i ∈ ws then e[i]?.map (fun _ => none) else e[i]?
  | [], i => by simp
  | v :: vs, i => by
    rw [wipeE_cons, List.getElem?_set, wipe_get e vs i]
    have hl := wipe_len e vs
    by_cases h : v = i
    · subst h
      simp [hl]
      by_cases q : v < e.length
      · simp [q]
      · simp [q]
    · have h2 : ¬ i = v := fun z => h z.symm
      simp [h, h2]
theorem back_get (e0 e : Env) : ∀ (ws : List Nat) (i : Nat), (backE e0 e ws)[i]? = if i ∈ ws then e[i]?.map (fun _ => (e0[i]?).getD none) else e[i]?
  | [], i => by simp
  | v :: vs, i => by
    rw [backE_cons, List.getElem?_set, back_get e0 e vs i]
    have hl := back_len e0 e vs
    by_cases h : v = i
    · subst h
      simp [hl]
      by_cases q : v < e.length
      · simp [q]
      · simp [q]
    · have h2 : ¬ i = v := fun z => h z.symm
      simp [h, h2]
theorem back_of {e0 e : Env} {ws : List Nat} (h : wipeE e ws = wipeE e0 ws) : backE e0 e ws = e0 := by
  refine List.ext_getElem? fun i => ?_
  have q : (wipeE e ws)[i]? = (wipeE e0 ws)[i]? := by rw [h]
  rw [wipe_get, wipe_get] at q
  rw [back_get]
  split
  · rename_i hi
    rw [if_pos hi, if_pos hi] at q
    cases a : e[i]? with
    | none =>
      rw [a] at q
      cases b : e0[i]? with
      | none => rfl
      | some y => rw [b] at q; cases q
    | some x =>
      rw [a] at q
      cases b : e0[i]? with
      | none => rw [b] at q; cases q
      | some y => rfl
  · rename_i hi
    rw [if_neg hi, if_neg hi] at q
    exact q
/-- a comprehension of two clauses, over a state that stays -/
theorem lcGoB_pure {τ υ : Type} (tD : τ → D) (uD : υ → D) (g : τ → List υ) (f : τ → υ → D) {ws ws1 : List Nat} {tg tg1 : D → Env → Option Env} {cond cond1 : M Bool} {it1 : Itm} {elt : M D} {w0 : Env} (hw0 : wipeE w0 ws = w0) :
    ∀ (l : List τ), (∀ t, t ∈ l → ∃ e1, tg (tD t) w0 = some e1 ∧ wipeE e1 ws = w0 ∧ cond e1 = .ok true e1 ∧ it1 e1 = .ok ((g t).map uD) e1 ∧ wipeE (wipeE e1 ws1) ws1 = wipeE e1 ws1 ∧ wipeE (wipeE e1 ws1) ws = w0 ∧
      ∀ u, u ∈ g t → ∃ e2, tg1 (uD u) (wipeE e1 ws1) = some e2 ∧ wipeE e2 ws1 = wipeE e1 ws1 ∧ cond1 e2 = .ok true e2 ∧ elt e2 = .ok (f t u) e2) →
    ∀ (e : Env) (acc : List D), wipeE e ws = w0 → acc.length + (l.map fun t => (g t).length).sum ≤ 16777216 → ∃ e', lcGoB ws ws1 tg cond it1 tg1 cond1 elt (l.map tD) e acc = .ok (acc ++ l.flatMap fun t => (g t).map (f t)) e' ∧ wipeE e' ws = w0
  | [], _, e, acc, he, _ => ⟨e, by show Out.ok acc e = _; simp, he⟩
  | t :: l, h, e, acc, he, hl => by
    obtain ⟨e1, h1, h2, h3, h4, h5, h6, h7⟩ := h t List.mem_cons_self
    rw [List.map_cons, List.sum_cons] at hl
    have inner := lcGo_fold (σ := Unit) (fun _ => wipeE e1 ws1) uD (fun s u => ((), some (f t u))) (ws := ws1) (tg := tg1) (cond := cond1) (elt := elt) (fun _ => True) (fun _ => h5) (g t) (fun s u hu _ => by
      obtain ⟨e2, k1, k2, k3, k4⟩ := h7 u hu
      exact ⟨trivial, e2, e2, k1, k3, e2, k4, k2⟩) () e1 acc trivial rfl (by omega)
    obtain ⟨_, e4, r1, r2, r3⟩ := inner
    have fc : ∀ l : List υ, (foldC (fun (s : Unit) u => ((), some (f t u))) l ()).2 = l.map (f t) := fun l => by
      induction l with
      | nil => rfl
      | cons u l ih => show _ ++ (foldC _ l ()).2 = _; rw [ih]; rfl
    rw [fc] at r1
    have he4 : wipeE e4 ws = w0 := by
      rcases r3 with r3 | r3 <;> rw [r3]
      · exact h2
      · exact h6
    obtain ⟨e', s1, s2⟩ := lcGoB_pure tD uD g f hw0 l (fun t ht => h t (List.mem_cons_of_mem _ ht)) e4 (acc ++ (g t).map (f t)) he4 (by rw [List.length_append, List.length_map]; omega)
    refine ⟨e', ?_, s2⟩
    show (match tg (tD t) (wipeE e ws) with
      | some e1 => match cond e1 with
        | .ok true e2 => match it1 e2 with
          | .ok es e3 => match lcGo ws1 tg1 cond1 elt es e3 acc with
            | .ok acc' e4 => lcGoB ws ws1 tg cond it1 tg1 cond1 elt (l.map tD) e4 acc'
            | _ => .no
          | _ => .no
        | .ok false e2 => lcGoB ws ws1 tg cond it1 tg1 cond1 elt (l.map tD) e2 acc
        | _ => .no
      | none => .no) = _
    rw [he, h1]
    dsimp only
    rw [h3]
    dsimp only
    rw [h4]
    dsimp only
    rw [r1]
    dsimp only
    rw [s1, List.append_assoc]
    rfl
theorem mLcB_pure {τ υ : Type} (tD : τ → D) (uD : υ → D) (g : τ → List υ) (f : τ → υ → D) {it : Itm} {ws ws1 : List Nat} {tg tg1 : D → Env → Option Env} {cond cond1 : M Bool} {it1 : Itm} {elt : M D} {e e0 : Env} (l : List τ)
    (hit : it e = .ok (l.map tD) e0) (hp : ws.all (plainAt e0) = true) (hw : wipeE (wipeE e0 ws) ws = wipeE e0 ws) (hl : (l.map fun t => (g t).length).sum ≤ 16777216)
    (h : ∀ t, t ∈ l → ∃ e1, tg (tD t) (wipeE e0 ws) = some e1 ∧ wipeE e1 ws = wipeE e0 ws ∧ cond e1 = .ok true e1 ∧ it1 e1 = .ok ((g t).map uD) e1 ∧ wipeE (wipeE e1 ws1) ws1 = wipeE e1 ws1 ∧ wipeE (wipeE e1 ws1) ws = wipeE e0 ws ∧
      ∀ u, u ∈ g t → ∃ e2, tg1 (uD u) (wipeE e1 ws1) = some e2 ∧ wipeE e2 ws1 = wipeE e1 ws1 ∧ cond1 e2 = .ok true e2 ∧ elt e2 = .ok (f t u) e2) :
    mLcB it ws ws1 tg cond it1 tg1 cond1 elt e = .ok (.lst (vals (l.flatMap fun t => (g t).map (f t)))) e0 := by
  obtain ⟨e', r1, r2⟩ := lcGoB_pure tD uD g f hw l h e0 [] rfl (by simpa using hl)
  unfold mLcB
  rw [hit]
  dsimp only
  rw [if_pos hp, r1]
  dsimp only
  rw [back_of r2]
  rfl
/-- a for loop, by a relation: I: of what is still to be walked, and the state -/
theorem forGo_rel {σ τ χ : Type} (enc : σ → χ → Env) (tD : τ → D) {tg : D → Env → Option Env} {body : M Fl} (I : List τ → σ → Prop) :
    ∀ (l : List τ), (∀ s x t r, t ∈ l → I (t :: r) s → ∃ s' x', I r s' ∧ ∃ e1, tg (tD t) (enc s x) = some e1 ∧ (body e1 = .ok .nx (enc s' x') ∨ body e1 = .ok .ct (enc s' x'))) →
    ∀ s x, I l s → ∃ s' x', I [] s' ∧ forGo tg body (l.map tD) (enc s x) = .ok .nx (enc s' x')
  | [], _, s, x, i => ⟨s, x, i, rfl⟩
  | t :: l, h, s, x, i => by
    obtain ⟨s1, x1, i1, e1, h1, h2⟩ := h s x t l List.mem_cons_self i
    obtain ⟨s2, x2, i2, h3⟩ := forGo_rel enc tD I l (fun s x t r ht => h s x t r (List.mem_cons_of_mem _ ht)) s1 x1 i1
    refine ⟨s2, x2, i2, ?_⟩
    show (match tg (tD t) (enc s x) with
      | some e1 => match body e1 with
        | .ok .nx e2 => forGo tg body (l.map tD) e2
        | .ok .ct e2 => forGo tg body (l.map tD) e2
        | .ok .brk e2 => .ok .nx e2
        | .ok (.ret o) e2 => .ok (.ret o) e2
        | .exc x e2 => .exc x e2
        | .no => .no
      | none => .no) = _
    rw [h1]
    dsimp only
    rcases h2 with h2 | h2 <;> rw [h2] <;> exact h3
/-- a comprehension, by a relation: I: of what is still to be walked, the state, and what was kept -/
theorem lcGo_rel {σ τ υ : Type} (enc : σ → Env) (tD : τ → D) (uD : υ → D) {ws : List Nat} {tg : D → Env → Option Env} {cond : M Bool} {elt : M D} (I : List τ → σ → List υ → Prop) (hw : ∀ s, wipeE (enc s) ws = enc s) :
    ∀ (l : List τ), (∀ s t r acc, t ∈ l → I (t :: r) s acc → ∃ e1 e2, tg (tD t) (enc s) = some e1 ∧
      ((∃ u s' e3, I r s' (acc ++ [u]) ∧ cond e1 = .ok true e2 ∧ elt e2 = .ok (uD u) e3 ∧ wipeE e3 ws = enc s') ∨ ∃ s', I r s' acc ∧ cond e1 = .ok false e2 ∧ wipeE e2 ws = enc s')) →
    ∀ s e acc, I l s acc → wipeE e ws = enc s → acc.length + l.length ≤ 16777216 → ∃ s' acc' e', I [] s' acc' ∧ lcGo ws tg cond elt (l.map tD) e (acc.map uD) = .ok (acc'.map uD) e' ∧ wipeE e' ws = enc s' ∧ (e' = e ∨ e' = enc s')
  | [], _, s, e, acc, i, he, _ => ⟨s, acc, e, i, rfl, he, .inl rfl⟩
  | t :: l, h, s, e, acc, i, he, hl => by
    obtain ⟨e1, e2, h1, h2⟩ := h s t l acc List.mem_cons_self i
    rw [List.length_cons] at hl
    have red : lcGo ws tg cond elt ((t :: l).map tD) e (acc.map uD) = (match cond e1 with
        | .ok true e2 => match elt e2 with
          | .ok x e3 => if decide ((acc.map uD).length < sizeLine) then lcGo ws tg cond elt (l.map tD) (wipeE e3 ws) (acc.map uD ++ [x]) else .no
          | _ => .no
        | .ok false e2 => lcGo ws tg cond elt (l.map tD) (wipeE e2 ws) (acc.map uD)
        | _ => .no) := by
      show (match tg (tD t) (wipeE e ws) with
        | some e1 => match cond e1 with
          | .ok true e2 => match elt e2 with
            | .ok x e3 => if decide ((acc.map uD).length < sizeLine) then lcGo ws tg cond elt (l.map tD) (wipeE e3 ws) (acc.map uD ++ [x]) else .no
            | _ => .no
          | .ok false e2 => lcGo ws tg cond elt (l.map tD) (wipeE e2 ws) (acc.map uD)
          | _ => .no
        | none => .no) = _
      rw [he, h1]
    rw [red]
    rcases h2 with ⟨u, s1, e3, i1, k1, k2, k3⟩ | ⟨s1, i1, k1, k3⟩
    · rw [k1]
      dsimp only
      rw [k2]
      dsimp only
      rw [if_pos (show decide ((acc.map uD).length < sizeLine) = true from decide_eq_true (show (acc.map uD).length < 16777216 by rw [List.length_map]; omega)), k3]
      obtain ⟨s2, acc2, e', i2, r1, r2, r3⟩ := lcGo_rel enc tD uD I hw l (fun s t r acc ht => h s t r acc (List.mem_cons_of_mem _ ht)) s1 (enc s1) (acc ++ [u]) i1 (hw _) (by rw [List.length_append, List.length_singleton]; omega)
      refine ⟨s2, acc2, e', i2, ?_, r2, ?_⟩
      · rw [← r1, List.map_append]; rfl
      · rcases r3 with r3 | r3
        · exact .inr (by rw [r3, ← r2, r3, hw])
        · exact .inr r3
    · rw [k1]
      dsimp only
      rw [k3]
      obtain ⟨s2, acc2, e', i2, r1, r2, r3⟩ := lcGo_rel enc tD uD I hw l (fun s t r acc ht => h s t r acc (List.mem_cons_of_mem _ ht)) s1 (enc s1) acc i1 (hw _) (by omega)
      refine ⟨s2, acc2, e', i2, r1, r2, ?_⟩
      rcases r3 with r3 | r3
      · exact .inr (by rw [r3, ← r2, r3, hw])
      · exact .inr r3
theorem mLc_rel {σ τ υ : Type} (enc : σ → Env) (tD : τ → D) (uD : υ → D) {it : Itm} {ws : List Nat} {tg : D → Env → Option Env} {cond : M Bool} {elt : M D} (I : List τ → σ → List υ → Prop) {e e0 : Env} (l : List τ) (s : σ)
    (hit : it e = .ok (l.map tD) e0) (hp : ws.all (plainAt e0) = true) (hw : ∀ s, wipeE (enc s) ws = enc s) (he : wipeE e0 ws = enc s) (i : I l s []) (hl : l.length ≤ 16777216)
    (h : ∀ s t r acc, t ∈ l → I (t :: r) s acc → ∃ e1 e2, tg (tD t) (enc s) = some e1 ∧
      ((∃ u s' e3, I r s' (acc ++ [u]) ∧ cond e1 = .ok true e2 ∧ elt e2 = .ok (uD u) e3 ∧ wipeE e3 ws = enc s') ∨ ∃ s', I r s' acc ∧ cond e1 = .ok false e2 ∧ wipeE e2 ws = enc s')) :
    ∃ s' acc, I [] s' acc ∧ mLc it ws tg cond elt e = .ok (.lst (vals (acc.map uD))) (backE e0 (enc s') ws) := by
  obtain ⟨s', acc, e', i2, r1, r2, r3⟩ := lcGo_rel enc tD uD I hw l h s e0 [] i he (by simpa using hl)
  refine ⟨s', acc, i2, ?_⟩
  unfold mLc
  rw [hit]
  dsimp only
  rw [if_pos hp]
  rw [List.map_nil] at r1
  rw [r1]
  dsimp only
  rcases r3 with r3 | r3
  · rw [r3] at r2 ⊢
    have : backE e0 e0 ws = backE e0 (enc s') ws := by
      rw [← r2]
      refine List.ext_getElem? fun i => ?_
      rw [back_get, back_get, wipe_get]
      split
      · cases e0[i]? <;> rfl
      · rfl
    rw [this]
  · rw [r3]
end
end MP

set_option Elab.async false
set_option linter.all false
set_option maxRecDepth 100000
set_option maxHeartbeats 4000000
namespace MP
open PySem PySem.Spec PyProof.Rows L2
def c_is_whole : C := (.seqS (.ret (.andV (.ofB (.isi (.var 0) "int")) (.ofB (.not (.isB (.ofB (.isi (.var 0) "bool"))))))) .skip)
def f_is_whole : FE := { name := "is_whole", ps := ["thing"], df := [], N := ["thing", "0", "1", "2", "3", "4", "5", "6"], code := c_is_whole }
def c_is_from : C := (.seqS (.ret (.andV (.call "is_whole" 1 (.cons (.argN 0) .nil) []) (.ofB (.chain .LtE .LtE (.var 1) (.var 0) (.var 2))))) .skip)
def f_is_from : FE := { name := "is_from", ps := ["thing", "low", "high"], df := [], N := ["thing", "low", "high", "0", "1", "2", "3", "4"], code := c_is_from }
def c_is_tuple : C := (.seqS (.ret (.andV (.ofB (.isi (.var 0) "tuple")) (.ofB (.chain .LtE .LtE (.var 1) (.lenN 0) (.var 2))))) .skip)
def f_is_tuple : FE := { name := "is_tuple", ps := ["thing", "low", "high"], df := [], N := ["thing", "low", "high", "0", "1", "2", "3", "4"], code := c_is_tuple }
def c_is_word_1e : C := (.call "is_from" 3 (.cons (.argN 8) (.cons (.argV (.cst (PyData.int (0)))) (.cons (.argV (.bin .Sub (.sub 9 (.cst (PyData.int (0)))) (.cst (PyData.int (1))))) .nil))) [])
def c_is_word_1 : C := (.lc (.zip (.var 1) (.var 0)) [8, 9] (.tup [8, 9]) .yes c_is_word_1e)
def c_is_word : C := (.seqS (.ifS (.not (.tru (.call "is_tuple" 3 (.cons (.argN 1) (.cons (.argN 2) (.cons (.argN 2) .nil))) []))) (.seqS (.ret (.cst (PyData.bool false))) .skip) .skip) (.seqS (.ret (.bi .all (.cons c_is_word_1 .nil))) .skip))
def f_is_word : FE := { name := "is_word", ps := ["lock", "thing", "many"], df := [], N := ["lock", "thing", "many", "0", "1", "2", "3", "4", "place", "bolt"], code := c_is_word }
def c_are_rising_1e : C := (.ofB (.cmp .Lt (.sub 0 (.var 8)) (.sub 0 (.bin .Add (.var 8) (.cst (PyData.int (1)))))))
def c_are_rising_1 : C := (.lc (.rng1 (.bin .Sub (.lenN 0) (.cst (PyData.int (1))))) [8] (.name 8) .yes c_are_rising_1e)
def c_are_rising : C := (.seqS (.ret (.bi .all (.cons c_are_rising_1 .nil))) .skip)
def f_are_rising : FE := { name := "are_rising", ps := ["row"], df := [], N := ["row", "0", "1", "2", "3", "4", "5", "6", "k"], code := c_are_rising }
def c_is_gap_1e : C := (.call "is_word" 3 (.cons (.argN 0) (.cons (.argN 12) (.cons (.argV (.lenN 0)) .nil))) [])
def c_is_gap_1 : C := (.lc (.seq (.var 11)) [12] (.name 12) .yes c_is_gap_1e)
def c_is_gap : C := (.seqS (.ifS (.not (.tru (.call "is_tuple" 3 (.cons (.argN 2) (.cons (.argV (.cst (PyData.int (4)))) (.cons (.argV (.cst (PyData.int (4)))) .nil))) []))) (.seqS (.ret (.cst (PyData.bool false))) .skip) .skip) (.seqS (.tgt (.tup [8, 9, 10, 11]) (.var 2)) (.seqS (.ifS (.or (.not (.tru (.call "is_from" 3 (.cons (.argN 8) (.cons (.argV (.cst (PyData.int (0)))) (.cons (.argV (.bin .Sub (.var 1) (.cst (PyData.int (1))))) .nil))) []))) (.or (.not (.tru (.call "is_from" 3 (.cons (.argN 9) (.cons (.argV (.cst (PyData.int (0)))) (.cons (.argV (.bin .Sub (.var 1) (.cst (PyData.int (1))))) .nil))) []))) (.cmp .Eq (.var 8) (.var 9)))) (.seqS (.ret (.cst (PyData.bool false))) .skip) .skip) (.seqS (.ifS (.or (.not (.tru (.call "is_from" 3 (.cons (.argN 10) (.cons (.argV (.cst (PyData.int (1)))) (.cons (.argV (.cst (PyData.int (1000000)))) .nil))) []))) (.not (.tru (.ofB (.isi (.var 11) "tuple"))))) (.seqS (.ret (.cst (PyData.bool false))) .skip) .skip) (.seqS (.ret (.andV (.bi .all (.cons c_is_gap_1 .nil)) (.call "are_rising" 1 (.cons (.argN 11) .nil) []))) .skip)))))
def f_is_gap : FE := { name := "is_gap", ps := ["below", "many", "thing"], df := [], N := ["below", "many", "thing", "0", "1", "2", "3", "4", "here", "there", "price", "ways", "way"], code := c_is_gap }
def c_is_bolt_1e : C := (.call "is_gap" 3 (.cons (.argN 0) (.cons (.argN 8) (.cons (.argN 10) .nil))) [])
def c_is_bolt_1 : C := (.lc (.seq (.var 9)) [10] (.name 10) .yes c_is_bolt_1e)
def c_is_bolt_2e : C := (.sl (.var 10) .pN (.pS (.cst (PyData.int (2)))))
def c_is_bolt_2 : C := (.lc (.seq (.var 9)) [10] (.name 10) .yes c_is_bolt_2e)
def c_is_bolt_3e : C := (.bi .len (.cons (.sub 10 (.cst (PyData.int (3)))) .nil))
def c_is_bolt_3 : C := (.lc (.seq (.var 9)) [10] (.name 10) .yes c_is_bolt_3e)
def c_is_bolt : C := (.seqS (.ifS (.or (.not (.tru (.call "is_tuple" 3 (.cons (.argN 1) (.cons (.argV (.cst (PyData.int (2)))) (.cons (.argV (.cst (PyData.int (2)))) .nil))) []))) (.or (.not (.tru (.call "is_from" 3 (.cons (.argV (.sub 1 (.cst (PyData.int (0))))) (.cons (.argV (.cst (PyData.int (2)))) (.cons (.argV (.cst (PyData.int (4)))) .nil))) []))) (.not (.tru (.call "is_tuple" 3 (.cons (.argV (.sub 1 (.cst (PyData.int (1))))) (.cons (.argV (.cst (PyData.int (0)))) (.cons (.argV (.cst (PyData.int (12)))) .nil))) []))))) (.seqS (.ret (.cst (PyData.bool false))) .skip) .skip) (.seqS (.tgt (.tup [8, 9]) (.var 1)) (.seqS (.ifS (.not (.tru (.bi .all (.cons c_is_bolt_1 .nil)))) (.seqS (.ret (.cst (PyData.bool false))) .skip) .skip) (.seqS (.ret (.andV (.call "are_rising" 1 (.cons (.argV c_is_bolt_2) .nil) []) (.ofB (.cmp .LtE (.bi .sum (.cons c_is_bolt_3 .nil)) (.cst (PyData.int (8))))))) .skip))))
def f_is_bolt : FE := { name := "is_bolt", ps := ["below", "thing"], df := [], N := ["below", "thing", "0", "1", "2", "3", "4", "5", "many", "gaps", "gap"], code := c_is_bolt }
def c_ways_of_1e : C := (.var 9)
def c_ways_of_1 : C := (.lcB (.seq (.sub 0 (.cst (PyData.int (1))))) [8, 9] [9] (.name 8) .yes (.seq (.sub 8 (.cst (PyData.int (3))))) (.name 9) .yes c_ways_of_1e)
def c_ways_of : C := (.seqS (.ret c_ways_of_1) .skip)
def f_ways_of : FE := { name := "ways_of", ps := ["bolt"], df := [], N := ["bolt", "0", "1", "2", "3", "4", "5", "6", "gap", "way"], code := c_ways_of }
def c_first_wide_2e : C := (.sl (.var 11) .pN (.pS (.var 10)))
def c_first_wide_2 : C := (.lc (.seq (.var 9)) [11] (.name 11) .yes c_first_wide_2e)
def c_first_wide_1b : C := (.seqS (.set 9 (.sset (.bin .Add c_first_wide_2 (.call "ways_of" 1 (.cons (.argV (.sub 0 (.var 10))) .nil) [])))) (.seqS (.ifS (.cmp .Gt (.lenN 9) (.cst (PyData.int (8)))) (.seqS (.set 8 (.var 10)) .skip) .skip) .skip))
def c_first_wide_1 : C := (.for (.rng3 (.bin .Sub (.lenN 0) (.cst (PyData.int (1)))) (.neg (.cst (PyData.int (1)))) (.neg (.cst (PyData.int (1))))) (.name 10) c_first_wide_1b)
def c_first_wide : C := (.seqS (.par 8 9 (.cst PyData.none) (.lst .nil)) (.seqS c_first_wide_1 (.seqS (.ret (.var 8)) .skip)))
def f_first_wide : FE := { name := "first_wide", ps := ["lock"], df := [], N := ["lock", "0", "1", "2", "3", "4", "5", "6", "found", "words", "k", "word"], code := c_first_wide }
def c_fault_of_1b : C := (.seqS (.ifS (.not (.tru (.call "is_bolt" 2 (.cons (.argV (.sl (.var 0) .pN (.pS (.var 8)))) (.cons (.argN 9) .nil)) []))) (.seqS (.ret (.tup (.cons (.cst (PyData.str "bolt")) (.cons (.var 8) .nil)))) .skip) .skip) .skip)
def c_fault_of_1 : C := (.for (.enum (.var 0)) (.tup [8, 9]) c_fault_of_1b)
def c_fault_of : C := (.seqS (.ifS (.not (.tru (.call "is_tuple" 3 (.cons (.argN 0) (.cons (.argV (.cst (PyData.int (1)))) (.cons (.argV (.cst (PyData.int (60)))) .nil))) []))) (.seqS (.ret (.tup (.cons (.cst (PyData.str "lock")) .nil))) .skip) .skip) (.seqS c_fault_of_1 (.seqS (.set 10 (.call "first_wide" 1 (.cons (.argN 0) .nil) [])) (.seqS (.ret (.ifO (.cmp .Is (.var 10) (.cst PyData.none)) (.cst PyData.none) (.tup (.cons (.cst (PyData.str "words")) (.cons (.var 10) .nil))))) .skip))))
def f_fault_of : FE := { name := "fault_of", ps := ["thing"], df := [], N := ["thing", "0", "1", "2", "3", "4", "5", "6", "k", "bolt", "wide"], code := c_fault_of }
def c_is_lock : C := (.seqS (.ret (.ofB (.cmp .Is (.call "fault_of" 1 (.cons (.argN 0) .nil) []) (.cst PyData.none)))) .skip)
def f_is_lock : FE := { name := "is_lock", ps := ["thing"], df := [], N := ["thing", "0", "1", "2", "3", "4", "5", "6"], code := c_is_lock }
def c_must_be_lock : C := (.seqS (.set 8 (.call "fault_of" 1 (.cons (.argN 0) .nil) [])) (.seqS (.ifS (.cmp .IsNot (.var 8) (.cst PyData.none)) (.seqS (.raise "NoLock" (.var 8)) .skip) .skip) .skip))
def f_must_be_lock : FE := { name := "must_be_lock", ps := ["thing"], df := [], N := ["thing", "0", "1", "2", "3", "4", "5", "6", "fault"], code := c_must_be_lock }
/-- the table has this function -/
def At (tab : List FE) (f : Str) (fe : FE) : Prop := (tab.find? fun x => x.name == f) = some fe
structure HasW (tab : List FE) : Prop where
  is_whole : At tab "is_whole" f_is_whole
  is_from : At tab "is_from" f_is_from
  is_tuple : At tab "is_tuple" f_is_tuple
  is_word : At tab "is_word" f_is_word
  are_rising : At tab "are_rising" f_are_rising
  is_gap : At tab "is_gap" f_is_gap
  is_bolt : At tab "is_bolt" f_is_bolt
  ways_of : At tab "ways_of" f_ways_of
  first_wide : At tab "first_wide" f_first_wide
  fault_of : At tab "fault_of" f_fault_of
structure Gp where
  here : Int
  there : Int
  price : Int
  ways : List (List Int)
  deriving DecidableEq
structure Bt where
  many : Int
  gaps : List Gp
  deriving DecidableEq
def wD (w : List Int) : D := .tuple (w.map fun x => .int x)
def gD (g : Gp) : D := .tuple [.int g.here, .int g.there, .int g.price, .tuple (g.ways.map wD)]
def bD (b : Bt) : D := .tuple [.int b.many, .tuple (b.gaps.map gD)]
def lD (l : List Bt) : D := .tuple (l.map bD)
section
variable {tab : List FE}
def isInt : D → Bool
  | .int _ => true
  | _ => false
@[simp] theorem isInt_int (i : Int) : isInt (.int i) = true := rfl
theorem den_is_whole (H : HasW tab) (n : Nat) (d : D) : denT tab (n + 1) "is_whole" [.val d] = .ok (.val (.bool (isInt d))) [some (.val d)] := by
  rw [denT_at H.is_whole n _ rfl]
  cases d <;> simp [f_is_whole, c_is_whole, isInt]
theorem den_is_from (H : HasW tab) (n : Nat) (i lo hi : Int) : denT tab (n + 2) "is_from" [.val (.int i), .val (.int lo), .val (.int hi)] = .ok (.val (.bool (decide (lo ≤ i) && decide (i ≤ hi)))) [some (.val (.int i)), some (.val (.int lo)), some (.val (.int hi))] := by
  rw [denT_at H.is_from _ _ rfl]
  simp [f_is_from, c_is_from, den_is_whole H]
theorem den_is_tuple (H : HasW tab) (n : Nat) (ds : List D) (lo hi : Int) : denT tab (n + 1) "is_tuple" [.val (.tuple ds), .val (.int lo), .val (.int hi)] = .ok (.val (.bool (decide (lo ≤ (ds.length : Int)) && decide ((ds.length : Int) ≤ hi)))) [some (.val (.tuple ds)), some (.val (.int lo)), some (.val (.int hi))] := by
  rw [denT_at H.is_tuple _ _ rfl]
  simp [f_is_tuple, c_is_tuple]
end
section
variable {tab : List FE}
def okPl (q : Int × Bt) : Bool := decide (0 ≤ q.1) && decide (q.1 ≤ q.2.many - 1)
def okW (l : List Bt) (w : List Int) (m : Int) : Bool := decide ((w.length : Int) = m) && (w.zip l).all okPl
theorem w_is_word_1 (H : HasW tab) (n : Nat) (l : List Bt) (w : List Int) (m : Int) (hl : w.length ≤ 16777216) :
    (mean (denT tab (n + 2)) c_is_word_1).o [some (.val (lD l)), some (.val (wD w)), some (.val (.int m)), none, none, none, none, none, none, none] = .ok (.lst (vals ((w.zip l).map fun q => .bool (okPl q)))) [some (.val (lD l)), some (.val (wD w)), some (.val (.int m)), none, none, none, none, none, none, none] := by
  rw [c_is_word_1, me_lc_o]
  refine mLc_pure (fun q : Int × Bt => .tuple [.int q.1, bD q.2]) (fun q => .bool (okPl q)) (w.zip l) ?_ rfl rfl rfl rfl (by rw [List.length_zip]; omega) fun q hq => ⟨_, rfl, rfl, rfl, ?_⟩
  · simp [lD, wD, zipD_map]
  · simp [c_is_word_1e, bD, den_is_from H, okPl]
theorem den_is_word (H : HasW tab) (n : Nat) (l : List Bt) (w : List Int) (m : Int) (hl : w.length ≤ 16777216) :
    denT tab (n + 3) "is_word" [.val (lD l), .val (wD w), .val (.int m)] = .ok (.val (.bool (okW l w m))) [some (.val (lD l)), some (.val (wD w)), some (.val (.int m))] := by
  rw [denT_at H.is_word _ _ rfl]
  have h := w_is_word_1 H n l w m hl
  have h2 := den_is_tuple H (n + 1) (w.map fun x => .int x) m m
  rw [show (PyData.tuple (w.map fun x => .int x)) = wD w from rfl] at h2
  simp [f_is_word, c_is_word, h, h2]
  grind [okW]
/-- rows of numbers that rise -/
def risB (l : List (List Int)) : Bool := (List.range (l.length - 1)).all fun k => HT.lexLt (l.getD k []) (l.getD (k + 1) [])
theorem lexLt_wD (a b : List Int) : cmpR .Lt (wD a) (wD b) = some (HT.lexLt a b) := cmp_lt_tup a b
theorem bigOk_of {i : Int} (h : -(2 ^ 62) ≤ i) (h2 : i < 2 ^ 62) : bigOk i = true := by
  unfold bigOk; rw [decide_eq_true h, decide_eq_true h2]; rfl
theorem w_are_rising (H : HasW tab) (n : Nat) (l : List (List Int)) (d : D) (hd : d = .list (l.map wD) ∨ d = .tuple (l.map wD)) (hl : l.length ≤ 16777216) :
    (mean (denT tab n) c_are_rising_1).o [some (.val d), none, none, none, none, none, none, none, none] = .ok (.lst (vals ((List.range (l.length - 1)).map fun k => .bool (HT.lexLt (l.getD k []) (l.getD (k + 1) []))))) [some (.val d), none, none, none, none, none, none, none, none] := by
  rw [c_are_rising_1, me_lc_o]
  have hb : bigOk ((l.length : Int) - 1) = true := bigOk_of (by omega) (by omega)
  refine mLc_pure (fun k : Nat => .int (k : Int)) (fun k => .bool (HT.lexLt (l.getD k []) (l.getD (k + 1) []))) (List.range (l.length - 1)) ?_ rfl rfl rfl rfl (by rw [List.length_range]; omega) fun k hk => ⟨_, rfl, rfl, rfl, ?_⟩
  · have e : ((l.length : Int) - 1).toNat = l.length - 1 := by omega
    rcases hd with rfl | rfl <;> simp [hb, rangeD_eq, e]
  · have hk : k < l.length - 1 := List.mem_range.mp hk
    have e1 : (l.map wD)[k]? = some (wD (l.getD k [])) := by simp [List.getElem?_eq_getElem (show k < l.length by omega), List.getD]
    have e2 : atI (l.map wD) ((k : Int) + 1) = some (wD (l.getD (k + 1) [])) := by
      rw [show ((k : Int) + 1) = ((k + 1 : Nat) : Int) by omega, atI_nat]
      simp [List.getElem?_eq_getElem (show k + 1 < l.length by omega), List.getD]
    rcases hd with rfl | rfl <;> simp [c_are_rising_1e, e1, e2, lexLt_wD]
theorem den_are_rising (H : HasW tab) (n : Nat) (l : List (List Int)) (d : D) (hd : d = .list (l.map wD) ∨ d = .tuple (l.map wD)) (hl : l.length ≤ 16777216) :
    denT tab (n + 1) "are_rising" [.val d] = .ok (.val (.bool (risB l))) [some (.val d)] := by
  rw [denT_at H.are_rising _ _ rfl]
  simp [f_are_rising, c_are_rising, w_are_rising H n l d hd hl]
  rfl
end
section
variable {tab : List FE}
def okG (l : List Bt) (m : Int) (g : Gp) : Bool :=
  (decide (0 ≤ g.here) && decide (g.here ≤ m - 1)) && ((decide (0 ≤ g.there) && decide (g.there ≤ m - 1)) && !decide (g.here = g.there)) && (decide (1 ≤ g.price) && decide (g.price ≤ 1000000)) && (g.ways.all (fun w => okW l w l.length) && risB g.ways)
theorem isi_wD (w : List Int) : isiR (wD w) "tuple" = some true := isi_tuple_tuple _
theorem w_is_gap (H : HasW tab) (n : Nat) (l : List Bt) (m : Int) (g : Gp) (hl : l.length ≤ 16777216) (hw : g.ways.length ≤ 16777216) (hws : ∀ w ∈ g.ways, w.length ≤ 16777216) :
    (mean (denT tab (n + 3)) c_is_gap_1).o [some (.val (lD l)), some (.val (.int m)), some (.val (gD g)), none, none, none, none, none, some (.val (.int g.here)), some (.val (.int g.there)), some (.val (.int g.price)), some (.val (.tuple (g.ways.map wD))), none]
      = .ok (.lst (vals (g.ways.map fun w => .bool (okW l w l.length)))) [some (.val (lD l)), some (.val (.int m)), some (.val (gD g)), none, none, none, none, none, some (.val (.int g.here)), some (.val (.int g.there)), some (.val (.int g.price)), some (.val (.tuple (g.ways.map wD))), none] := by
  rw [c_is_gap_1, me_lc_o]
  refine mLc_pure wD (fun w => .bool (okW l w l.length)) g.ways ?_ rfl rfl rfl rfl hw fun w hw => ⟨_, rfl, rfl, rfl, ?_⟩
  · simp
  · have h := den_is_word H n l w l.length (hws w hw)
    have e : lenR [lD l] = some (.val (.int l.length)) := by simp [lD]
    simp [c_is_gap_1e, h, e]
theorem den_is_gap (H : HasW tab) (n : Nat) (l : List Bt) (m : Int) (g : Gp) (hl : l.length ≤ 16777216) (hw : g.ways.length ≤ 16777216) (hws : ∀ w ∈ g.ways, w.length ≤ 16777216) :
    denT tab (n + 4) "is_gap" [.val (lD l), .val (.int m), .val (gD g)] = .ok (.val (.bool (okG l m g))) [some (.val (lD l)), some (.val (.int m)), some (.val (gD g))] := by
  rw [denT_at H.is_gap _ _ rfl]
  have h := w_is_gap H n l m g hl hw hws
  have h2 := den_is_tuple H (n + 2) [.int g.here, .int g.there, .int g.price, .tuple (g.ways.map wD)] 4 4
  rw [show (PyData.tuple [.int g.here, .int g.there, .int g.price, .tuple (g.ways.map wD)]) = gD g from rfl] at h2
  have h3 := den_are_rising H (n + 2) g.ways _ (.inr rfl) hw
  have e : ∀ is e, tgF [] (.tup is) (gD g) e = setAll [] is [.int g.here, .int g.there, .int g.price, .tuple (g.ways.map wD)] e := fun _ _ => rfl
  simp [f_is_gap, c_is_gap, h, h2, h3, den_is_from H, e]
  grind [okG]
def okB (l : List Bt) (b : Bt) : Bool :=
  (decide (2 ≤ b.many) && decide (b.many ≤ 4)) && decide (b.gaps.length ≤ 12) && b.gaps.all (okG l b.many) && (risB (b.gaps.map fun g => [g.here, g.there]) && decide ((b.gaps.map fun g => (g.ways.length : Int)).sum ≤ 8))
/-- what a lock is made of is not too long -/
def FitB (b : Bt) : Prop := b.gaps.length ≤ 16777216 ∧ ∀ g ∈ b.gaps, g.ways.length ≤ 16777216 ∧ ∀ w ∈ g.ways, w.length ≤ 16777216
theorem w_is_bolt_1 (H : HasW tab) (n : Nat) (l : List Bt) (b : Bt) (hl : l.length ≤ 16777216) (hb : FitB b) :
    (mean (denT tab (n + 4)) c_is_bolt_1).o [some (.val (lD l)), some (.val (bD b)), none, none, none, none, none, none, some (.val (.int b.many)), some (.val (.tuple (b.gaps.map gD))), none]
      = .ok (.lst (vals (b.gaps.map fun g => .bool (okG l b.many g)))) [some (.val (lD l)), some (.val (bD b)), none, none, none, none, none, none, some (.val (.int b.many)), some (.val (.tuple (b.gaps.map gD))), none] := by
  rw [c_is_bolt_1, me_lc_o]
  refine mLc_pure gD (fun g => .bool (okG l b.many g)) b.gaps ?_ rfl rfl rfl rfl hb.1 fun g hg => ⟨_, rfl, rfl, rfl, ?_⟩
  · simp
  · have h := den_is_gap H n l b.many g hl (hb.2 g hg).1 (hb.2 g hg).2
    simp [c_is_bolt_1e, h]
theorem w_is_bolt_2 (n : Nat) (l : List Bt) (b : Bt) (hb : FitB b) :
    (mean (denT tab n) c_is_bolt_2).o [some (.val (lD l)), some (.val (bD b)), none, none, none, none, none, none, some (.val (.int b.many)), some (.val (.tuple (b.gaps.map gD))), none]
      = .ok (.lst (vals (b.gaps.map fun g => wD [g.here, g.there]))) [some (.val (lD l)), some (.val (bD b)), none, none, none, none, none, none, some (.val (.int b.many)), some (.val (.tuple (b.gaps.map gD))), none] := by
  rw [c_is_bolt_2, me_lc_o]
  refine mLc_pure gD (fun g => wD [g.here, g.there]) b.gaps ?_ rfl rfl rfl rfl hb.1 fun g hg => ⟨_, rfl, rfl, rfl, ?_⟩
  · simp
  · have e : cutD [.int g.here, .int g.there, .int g.price, .tuple (g.ways.map wD)] none (some 2) = [.int g.here, .int g.there] := cut_to _ 2
    simp [c_is_bolt_2e, gD, wD, e]
theorem w_is_bolt_3 (n : Nat) (l : List Bt) (b : Bt) (hb : FitB b) :
    (mean (denT tab n) c_is_bolt_3).o [some (.val (lD l)), some (.val (bD b)), none, none, none, none, none, none, some (.val (.int b.many)), some (.val (.tuple (b.gaps.map gD))), none]
      = .ok (.lst (vals (b.gaps.map fun g => .int (g.ways.length : Int)))) [some (.val (lD l)), some (.val (bD b)), none, none, none, none, none, none, some (.val (.int b.many)), some (.val (.tuple (b.gaps.map gD))), none] := by
  rw [c_is_bolt_3, me_lc_o]
  refine mLc_pure gD (fun g => .int (g.ways.length : Int)) b.gaps ?_ rfl rfl rfl rfl hb.1 fun g hg => ⟨_, rfl, rfl, rfl, ?_⟩
  · simp
  · simp [c_is_bolt_3e, gD]
theorem den_is_bolt (H : HasW tab) (n : Nat) (l : List Bt) (b : Bt) (hl : l.length ≤ 16777216) (hb : FitB b) :
    denT tab (n + 5) "is_bolt" [.val (lD l), .val (bD b)] = .ok (.val (.bool (okB l b))) [some (.val (lD l)), some (.val (bD b))] := by
  rw [denT_at H.is_bolt _ _ rfl]
  have h1 := w_is_bolt_1 H n l b hl hb
  have h2 := w_is_bolt_2 (tab := tab) (n + 4) l b hb
  have h3 := w_is_bolt_3 (tab := tab) (n + 4) l b hb
  have h4 := den_is_tuple H (n + 3) [.int b.many, .tuple (b.gaps.map gD)] 2 2
  rw [show (PyData.tuple [.int b.many, .tuple (b.gaps.map gD)]) = bD b from rfl] at h4
  have h5 := den_are_rising H (n + 3) (b.gaps.map fun g => [g.here, g.there]) (.list (b.gaps.map fun g => wD [g.here, g.there])) (.inl (by rw [List.map_map]; rfl)) (by rw [List.length_map]; exact hb.1)
  have e : ∀ is e, tgF [] (.tup is) (bD b) e = setAll [] is [.int b.many, .tuple (b.gaps.map gD)] e := fun _ _ => rfl
  have e1 : ixR (bD b) (.int 0) = some (.int b.many) := rfl
  have e2 : ixR (bD b) (.int 1) = some (.tuple (b.gaps.map gD)) := rfl
  simp [f_is_bolt, c_is_bolt, h1, h2, h3, h4, h5, den_is_from H, den_is_tuple H, e, e1, e2]
  grind [okB]
end
section
variable {tab : List FE}
def waysB (b : Bt) : List (List Int) := b.gaps.flatMap (·.ways)
theorem den_ways_of (H : HasW tab) (n : Nat) (b : Bt) (hb : (b.gaps.map fun g => g.ways.length).sum ≤ 16777216) :
    denT tab (n + 1) "ways_of" [.val (bD b)] = .ok (.lst (vals ((waysB b).map wD))) [some (.val (bD b))] := by
  rw [denT_at H.ways_of _ _ rfl]
  have h : (mean (denT tab n) c_ways_of_1).o [some (.val (bD b)), none, none, none, none, none, none, none, none, none] = .ok (.lst (vals ((waysB b).map wD))) [some (.val (bD b)), none, none, none, none, none, none, none, none, none] := by
    rw [c_ways_of_1, me_lcB_o]
    have k := mLcB_pure gD wD (fun g => g.ways) (fun _ w => wD w) (it := (mean (denT tab n) (.seq (.sub 0 (.cst (PyData.int (1)))))).i) (ws := [8, 9]) (ws1 := [9]) (tg := tgF [] (.name 8)) (tg1 := tgF [] (.name 9)) (cond := (mean (denT tab n) .yes).b) (cond1 := (mean (denT tab n) .yes).b) (it1 := (mean (denT tab n) (.seq (.sub 8 (.cst (PyData.int (3)))))).i) (elt := fz (mean (denT tab n) c_ways_of_1e).o)
      (e := [some (.val (bD b)), none, none, none, none, none, none, none, none, none]) (e0 := [some (.val (bD b)), none, none, none, none, none, none, none, none, none]) b.gaps (by simp [bD]) rfl rfl hb fun g hg => ⟨_, rfl, rfl, rfl, by simp [gD], rfl, rfl, fun u hu => ⟨_, rfl, rfl, rfl, by simp [c_ways_of_1e]⟩⟩
    rw [k, waysB, List.map_flatMap]
  simp [f_ways_of, c_ways_of, h]
def downL : Nat → List Nat
  | 0 => []
  | n + 1 => n :: downL n
theorem downD_eq : ∀ (n : Nat), downD ((n : Int) - 1) n = (downL n).map fun (k : Nat) => .int (k : Int)
  | 0 => rfl
  | n + 1 => by
    have ih := downD_eq n
    unfold downD at ih ⊢
    rw [List.range_succ_eq_map, List.map_cons, List.map_map, downL, List.map_cons, ← ih]
    congr 1
    · congr 1; simp
    · refine List.map_congr_left fun k _ => ?_
      show PyData.int _ = PyData.int _
      congr 1
      simp only [Nat.succ_eq_add_one]
      omega
theorem downL_lt : ∀ {n k : Nat}, k ∈ downL n → k < n
  | 0, _, h => by cases h
  | n + 1, k, h => by
    rcases List.mem_cons.mp h with h | h
    · omega
    · have := downL_lt h; omega
theorem downL_len : ∀ n, (downL n).length = n
  | 0 => rfl
  | n + 1 => by rw [downL, List.length_cons, downL_len n]
abbrev WSt := Option Nat × List (List Int)
def cutWs (l : List Bt) (ws : List (List Int)) (k : Nat) : List (List Int) := ws.map (List.take k) ++ waysB (l.getD k ⟨0, []⟩)
def wideStep (l : List Bt) (s : WSt) (k : Nat) : WSt := (if 8 < (setK (cutWs l s.2 k)).length then some k else s.1, setK (cutWs l s.2 k))
def wideGo (l : List Bt) : WSt := (downL l.length).foldl (wideStep l) (none, [])
def WideOk (l : List Bt) : List Nat → WSt → Prop
  | [], _ => True
  | k :: r, s => s.2.length ≤ 16777216 ∧ okKeys (cutWs l s.2 k) = true ∧ WideOk l r (wideStep l s k)
theorem tupsI_wD : ∀ ws : List (List Int), tupsI (ws.map wD) = some ws
  | [] => rfl
  | w :: ws => by
    have e : tupI (wD w) = some w := by show intsD (w.map fun x => .int x) = _; rw [intsD_map]; simp
    show (tupI (wD w)).bind _ = _
    rw [e, Option.bind_some, tupsI_wD ws]; rfl
theorem sortSet_wD (ws : List (List Int)) (h : okKeys ws = true) : sortSetR (.list (ws.map wD)) = some (.new ((setK ws).map wD)) := by
  show (tupsI (ws.map wD)).bind _ = _
  rw [tupsI_wD, Option.bind_some, if_pos h]; rfl
def natD : Option Nat → D
  | none => .none
  | some k => .int k
@[simp] theorem natD_none : natD none = .none := rfl
@[simp] theorem natD_some (k : Nat) : natD (some k) = .int k := rfl
def FitL (l : List Bt) : Prop := ∀ b ∈ l, FitB b ∧ (b.gaps.map fun g => g.ways.length).sum ≤ 16777216
theorem w_first_wide (H : HasW tab) (n : Nat) (l : List Bt) (hl : l.length ≤ 16777216) (hf : FitL l) (hk : WideOk l (downL l.length) (none, [])) :
    ∃ x, (mean (denT tab (n + 1)) c_first_wide_1).s [some (.val (lD l)), none, none, none, none, none, none, none, some (.val .none), some (.lst []), none, none] =
      .ok .nx [some (.val (lD l)), none, none, none, none, none, none, none, some (.val (natD (wideGo l).1)), some (.lst (vals ((wideGo l).2.map wD))), x, none] := by
  rw [c_first_wide_1, me_for_s]
  have b1 : bigOk ((l.length : Int) - 1) = true := bigOk_of (by omega) (by omega)
  have b2 : bigOk (-1) = true := by decide
  have e1 : ((l.length : Int) - 1 - -1).toNat = l.length := by omega
  have k := forGo_fold (σ := WSt) (χ := Option O) (fun s x => [some (.val (lD l)), none, none, none, none, none, none, none, some (.val (natD s.1)), some (.lst (vals (s.2.map wD))), x, none]) (fun k : Nat => .int (k : Int)) (wideStep l)
    (tg := tgF [] (.name 10)) (body := (mean (denT tab (n + 1)) c_first_wide_1b).s) (WideOk l) (downL l.length) (fun s x k r hm hi => by
      obtain ⟨i1, i2, i3⟩ := hi
      have hk : k < l.length := downL_lt hm
      refine ⟨i3, _, some (.val (.int (k : Int))), rfl, .inl ?_⟩
      have c2 : (mean (denT tab (n + 1)) c_first_wide_2).o [some (.val (lD l)), none, none, none, none, none, none, none, some (.val (natD s.1)), some (.lst (vals (s.2.map wD))), some (.val (.int (k : Int))), none] =
          .ok (.lst (vals ((s.2.map (List.take k)).map wD))) [some (.val (lD l)), none, none, none, none, none, none, none, some (.val (natD s.1)), some (.val (.list (s.2.map wD))), some (.val (.int (k : Int))), none] := by
        rw [c_first_wide_2, me_lc_o]
        rw [List.map_map]
        refine mLc_pure wD (fun w => wD (w.take k)) s.2 ?_ rfl rfl rfl rfl i1 fun w hw => ⟨_, rfl, rfl, rfl, ?_⟩
        · simp
        · have e : slR (wD w) none (some (k : Int)) = some (.val (wD (w.take k))) := by
            show some (Res.val (.tuple (cutD _ _ _))) = _
            rw [cut_to, wD, List.map_take]
          simp [c_first_wide_2e, e]
      have e3 : ixR (lD l) (.int (k : Int)) = some (bD (l.getD k ⟨0, []⟩)) := by
        show atI (l.map bD) (k : Int) = _
        rw [atI_nat, List.getElem?_map, List.getElem?_eq_getElem hk]
        simp [List.getD, hk]
      have hb : l.getD k ⟨0, []⟩ ∈ l := by simp [List.getD, hk]
      have e4 := den_ways_of H n (l.getD k ⟨0, []⟩) (hf _ hb).2
      have e5 : binR .Add (.list ((s.2.map (List.take k)).map wD)) (.list ((waysB (l.getD k ⟨0, []⟩)).map wD)) = some (.new ((cutWs l s.2 k).map wD)) := by
        rw [bin_lst _ _ ?_, cutWs, List.map_append]
        have q : (cutWs l s.2 k).length < 64 := by
          unfold okKeys at i2
          rw [Bool.and_eq_true, decide_eq_true_eq] at i2
          exact i2.1
        simp [cutWs] at q ⊢
        omega
      have e6 := sortSet_wD _ i2
      show _ = Out.ok Fl.nx [some (.val (lD l)), none, none, none, none, none, none, none, some (.val (natD (if 8 < (setK (cutWs l s.2 k)).length then some k else s.1))), some (.lst (vals ((setK (cutWs l s.2 k)).map wD))), some (.val (.int (k : Int))), none]
      generalize l.getD k ⟨0, []⟩ = b at e3 e4 e5
      generalize (s.2.map (List.take k)).map wD = ds1 at c2 e5
      generalize (waysB b).map wD = ds2 at e4 e5
      generalize cutWs l s.2 k = ks at e5 e6 ⊢
      by_cases q : 8 < (setK ks).length
      · simp [c_first_wide_1b, c2, e3, e4, e5, e6, q]
        omega
      · simp [c_first_wide_1b, c2, e3, e4, e5, e6, q]
        omega) (none, []) none hk
  obtain ⟨_, x, k⟩ := k
  refine ⟨x, ?_⟩
  simp [b1, b2, e1, downD_eq]
  have e7 : lenR [lD l] = some (.val (.int l.length)) := by simp [lD]
  simp [e7, b1, e1, downD_eq, b2]
  exact k
theorem den_first_wide (H : HasW tab) (n : Nat) (l : List Bt) (hl : l.length ≤ 16777216) (hf : FitL l) (hk : WideOk l (downL l.length) (none, [])) :
    denT tab (n + 2) "first_wide" [.val (lD l)] = .ok (.val (natD (wideGo l).1)) [some (.val (lD l))] := by
  rw [denT_at H.first_wide _ _ rfl]
  obtain ⟨x, h⟩ := w_first_wide H n l hl hf hk
  simp [f_first_wide, c_first_wide, h]
end
section
variable {tab : List FE}
/-- the first bolt that is none -/
def badStep (l : List Bt) (_ : Unit) (q : Bt × Nat) : Unit ⊕ Nat := if okB (l.take q.2) q.1 then .inl () else .inr q.2
def firstBad (l : List Bt) : Unit ⊕ Nat := foldS (badStep l) l.zipIdx ()
def faultD (l : List Bt) : D :=
  if 1 ≤ l.length ∧ l.length ≤ 60 then match firstBad l with
    | .inr k => .tuple [.str "bolt", .int (k : Int)]
    | .inl _ => match (wideGo l).1 with
      | none => .none
      | some k => .tuple [.str "words", .int (k : Int)]
  else .tuple [.str "lock"]
theorem w_fault_of (H : HasW tab) (n : Nat) (l : List Bt) (hl : l.length ≤ 60) (hf : FitL l) :
    match firstBad l with
    | .inl _ => ∃ x y, (mean (denT tab (n + 5)) c_fault_of_1).s [some (.val (lD l)), none, none, none, none, none, none, none, none, none, none] = .ok .nx [some (.val (lD l)), none, none, none, none, none, none, none, x, y, none]
    | .inr k => ∃ x y, (mean (denT tab (n + 5)) c_fault_of_1).s [some (.val (lD l)), none, none, none, none, none, none, none, none, none, none] = .ok (.ret (.val (.tuple [.str "bolt", .int (k : Int)]))) [some (.val (lD l)), none, none, none, none, none, none, none, x, y, none] := by
  have e : (mean (denT tab (n + 5)) (.enum (.var 0))).i [some (.val (lD l)), none, none, none, none, none, none, none, none, none, none] = .ok (l.zipIdx.map fun q => .tuple [.int (q.2 : Int), bD q.1]) [some (.val (lD l)), none, none, none, none, none, none, none, none, none, none] := by
    simp [lD, numD_map]
  have k := forGo_foldS (σ := Unit) (χ := Option O × Option O) (fun _ x => [some (.val (lD l)), none, none, none, none, none, none, none, x.1, x.2, none]) (fun q : Bt × Nat => .tuple [.int (q.2 : Int), bD q.1]) (badStep l)
    (fun k e => .ok (.ret (.val (.tuple [.str "bolt", .int (k : Int)]))) e) (tg := tgF [] (.tup [8, 9])) (body := (mean (denT tab (n + 5)) c_fault_of_1b).s) (fun _ _ => True) (fun r e => .inl ⟨_, rfl⟩) l.zipIdx (fun s x q r hm _ => by
      refine ⟨_, rfl, ?_⟩
      obtain ⟨b, k⟩ := q
      have hk := List.mem_zipIdx hm
      have hb : b ∈ l := by
        rw [hk.2.2]; exact List.getElem_mem _
      have e1 : slR (lD l) none (some (k : Int)) = some (.val (lD (l.take k))) := by
        show some (Res.val (.tuple (cutD _ _ _))) = _
        rw [cut_to, lD, List.map_take]
      have e2 := den_is_bolt H n (l.take k) b (by rw [List.length_take]; omega) (hf b hb).1
      unfold badStep
      cases q : okB (l.take k) b with
      | true =>
        simp only [if_true]
        refine ⟨trivial, (some (.val (.int (k : Int))), some (.val (bD b))), .inl ?_⟩
        simp [c_fault_of_1b, e1, e2, q]
      | false =>
        simp only [Bool.false_eq_true, if_false]
        refine ⟨(), (some (.val (.int (k : Int))), some (.val (bD b))), ?_⟩
        simp [c_fault_of_1b, e1, e2, q]) () (none, none) trivial
  rw [c_fault_of_1, me_for_s, ev_sFor, e, Out.bind_ok]
  unfold firstBad
  cases q : foldS (badStep l) l.zipIdx () with
  | inl u =>
    rw [q] at k
    obtain ⟨_, x, k⟩ := k
    exact ⟨x.1, x.2, k⟩
  | inr j =>
    rw [q] at k
    obtain ⟨_, x, k⟩ := k
    exact ⟨x.1, x.2, k⟩
theorem den_fault_of (H : HasW tab) (n : Nat) (l : List Bt) (hl : l.length ≤ 16777216) (hf : FitL l) (hk : 1 ≤ l.length → l.length ≤ 60 → firstBad l = .inl () → WideOk l (downL l.length) (none, [])) :
    denT tab (n + 6) "fault_of" [.val (lD l)] = .ok (.val (faultD l)) [some (.val (lD l))] := by
  rw [denT_at H.fault_of _ _ rfl]
  have e1 := den_is_tuple H (n + 4) (l.map bD) 1 60
  rw [show PyData.tuple (l.map bD) = lD l from rfl] at e1
  unfold faultD
  by_cases h : 1 ≤ l.length ∧ l.length ≤ 60
  · have h1 : (1 : Int) ≤ l.length := by omega
    have h2 : (l.length : Int) ≤ 60 := by omega
    have w := w_fault_of H n l h.2 hf
    rw [if_pos h]
    cases q : firstBad l with
    | inr k =>
      rw [q] at w
      obtain ⟨x, y, w⟩ := w
      simp [f_fault_of, c_fault_of, e1, h1, h2, w]
    | inl u =>
      rw [q] at w
      obtain ⟨x, y, w⟩ := w
      have e2 := den_first_wide H (n + 3) l hl hf (hk h.1 h.2 q)
      cases q2 : (wideGo l).1 with
      | none => simp [f_fault_of, c_fault_of, e1, h1, h2, w, e2, q2]
      | some k => simp [f_fault_of, c_fault_of, e1, h1, h2, w, e2, q2]
  · rw [if_neg h]
    have h1 : ((l.length : Int) < 1 ∨ 60 < (l.length : Int)) := by omega
    simp [f_fault_of, c_fault_of, e1, h1]
theorem den_is_tuple_list (H : HasW tab) (n : Nat) (ds : List D) (lo hi : Int) : denT tab (n + 1) "is_tuple" [.val (.list ds), .val (.int lo), .val (.int hi)] = .ok (.val (.bool false)) [some (.val (.list ds)), some (.val (.int lo)), some (.val (.int hi))] := by
  rw [denT_at H.is_tuple _ _ rfl]
  simp [f_is_tuple, c_is_tuple]
theorem den_fault_of_list (H : HasW tab) (n : Nat) (ds : List D) : denT tab (n + 2) "fault_of" [.val (.list ds)] = .ok (.val (.tuple [.str "lock"])) [some (.val (.list ds))] := by
  rw [denT_at H.fault_of _ _ rfl]
  simp [f_fault_of, c_fault_of, den_is_tuple_list H]
theorem den_is_lock (H : HasW tab) (H2 : At tab "is_lock" f_is_lock) (n : Nat) (l : List Bt) (hl : l.length ≤ 16777216) (hf : FitL l) (hk : 1 ≤ l.length → l.length ≤ 60 → firstBad l = .inl () → WideOk l (downL l.length) (none, [])) :
    denT tab (n + 7) "is_lock" [.val (lD l)] = .ok (.val (.bool (isNn (faultD l)))) [some (.val (lD l))] := by
  rw [denT_at H2 _ _ rfl]
  simp [f_is_lock, c_is_lock, den_fault_of H n l hl hf hk]
theorem den_must_be_lock (H2 : At tab "must_be_lock" f_must_be_lock) (n : Nat) (d f : D) (h : denT tab n "fault_of" [.val d] = .ok (.val f) [some (.val d)]) :
    denT tab (n + 1) "must_be_lock" [.val d] = if isNn f then .ok (.val .none) [some (.val d)] else .exc ⟨"NoLock", some f⟩ [some (.val d)] := by
  rw [denT_at H2 _ _ rfl]
  cases q : isNn f <;> simp [f_must_be_lock, c_must_be_lock, h, q]
end
end MP

set_option Elab.async false
set_option linter.all false
set_option maxRecDepth 100000
set_option maxHeartbeats 4000000
namespace MP
open PySem PySem.Spec PyProof.Rows L2
def T (l : List Nat) : Str := ⟨l.toArray⟩
@[simp] theorem T_cps (l : List Nat) : (T l).cps.toList = l := rfl
@[simp] theorem T_eq (a b : List Nat) : (T a = T b) = (a = b) := by
  refine propext ⟨fun h => ?_, fun h => by rw [h]⟩
  exact congrArg (fun x : Str => x.cps.toList) h
@[simp] theorem T_len (a : List Nat) : (T a).length = a.length := SX.S_len a
@[simp] theorem T_cat (a b : List Nat) : T a ++ T b = T (a ++ b) := SX.S_cat a b
@[simp] theorem T_emp : Str.empty ++ T a = T a := T_cat [] a
theorem T_all (x : Str) : ∃ a, x = T a := ⟨x.cps.toList, (SX.S_tl x).symm⟩
@[simp] theorem lit_0 : Str.ofString "0" = T [48] := by decide +kernel
@[simp] theorem lit_figs : Str.ofString "0123456789" = T [48, 49, 50, 51, 52, 53, 54, 55, 56, 57] := by decide +kernel
@[simp] theorem lit_dot : Str.ofString "." = T [46] := by decide +kernel
@[simp] theorem lit_com : Str.ofString "," = T [44] := by decide +kernel
@[simp] theorem lit_min : Str.ofString "-" = T [45] := by decide +kernel
@[simp] theorem lit_bl : Str.ofString " " = T [32] := by decide +kernel
@[simp] theorem lit_nl : Str.ofString "\n" = T [10] := by decide +kernel
@[simp] theorem lit_e : Str.ofString "" = T [] := by decide +kernel
@[simp] theorem lit_n : Str.ofString "n" = T [110] := by decide +kernel
@[simp] theorem lit_nn : Str.ofString "nn" = T [110, 110] := by decide +kernel
@[simp] theorem lit_nnn : Str.ofString "nnn" = T [110, 110, 110] := by decide +kernel
@[simp] theorem lit_w : Str.ofString "w" = T [119] := by decide +kernel
@[simp] theorem lit_ww : Str.ofString "ww" = T [119, 119] := by decide +kernel
def tBolt : List Nat := [98, 111, 108, 116]
def tGap : List Nat := [103, 97, 112]
def tWay : List Nat := [119, 97, 121]
def tPart : List Nat := [112, 97, 114, 116]
def tStep : List Nat := [115, 116, 101, 112]
def tUse : List Nat := [117, 115, 101]
def tBar : List Nat := [98, 97, 114]
@[simp] theorem lit_bolt : Str.ofString "bolt" = T tBolt := by decide +kernel
@[simp] theorem lit_gap : Str.ofString "gap" = T tGap := by decide +kernel
@[simp] theorem lit_way : Str.ofString "way" = T tWay := by decide +kernel
@[simp] theorem lit_part : Str.ofString "part" = T tPart := by decide +kernel
@[simp] theorem lit_step : Str.ofString "step" = T tStep := by decide +kernel
@[simp] theorem lit_use : Str.ofString "use" = T tUse := by decide +kernel
@[simp] theorem lit_bar : Str.ofString "bar" = T tBar := by decide +kernel
@[simp] theorem lit_bolt_ : Str.ofString "bolt " = T (tBolt ++ [32]) := by decide +kernel
@[simp] theorem lit_gap_ : Str.ofString "gap " = T (tGap ++ [32]) := by decide +kernel
@[simp] theorem lit_way_ : Str.ofString "way " = T (tWay ++ [32]) := by decide +kernel
/-- split at one sign -/
def splt (c : Nat) (a : List Nat) : List (List Nat) := TL.spl [c] 0 [] a
theorem splt_len (c : Nat) (a : List Nat) (hc : c < 256) : (splt c a).length ≤ a.length + 1 := by
  have h := SX.split_S (a := a) (b := [c]) (by simp) (by simp [hc])
  have h2 := split_weight (SX.S a) (SX.S [c]) (by rw [SX.S_len]; simp)
  rw [h, SX.S_len] at h2
  simp at h2
  have : (splt c a).length = (TL.spl [c] 0 [] a).length := rfl
  omega
def c_number_in_1e : C := (.ofB (.cmp .In (.var 8) (.cst (PyData.str "0123456789"))))
def c_number_in_1 : C := (.lc (.seq (.var 0)) [8] (.name 8) .yes c_number_in_1e)
def c_number_in : C := (.seqS (.ifS (.or (.not (.chain .LtE .LtE (.cst (PyData.int (1))) (.lenN 0) (.cst (PyData.int (300))))) (.not (.tru (.bi .all (.cons c_number_in_1 .nil))))) (.seqS (.ret (.cst PyData.none)) .skip) .skip) (.seqS (.ret (.ifO (.and (.cmp .Eq (.sub 0 (.cst (PyData.int (0)))) (.cst (PyData.str "0"))) (.cmp .NotEq (.var 0) (.cst (PyData.str "0")))) (.cst PyData.none) (.bi .int (.cons (.var 0) .nil)))) .skip))
def f_number_in : FE := { name := "number_in", ps := ["text"], df := [], N := ["text", "0", "1", "2", "3", "4", "5", "6", "sign"], code := c_number_in }
def c_word_in_1e : C := (.ifO (.and (.tru (.var 1)) (.cmp .Eq (.var 10) (.cst (PyData.str "-")))) (.cst (PyData.str "-")) (.call "number_in" 1 (.cons (.argN 10) .nil) []))
def c_word_in_1 : C := (.lc (.seq (.var 8)) [10] (.name 10) .yes c_word_in_1e)
def c_word_in_2e : C := (.ifO (.cmp .Eq (.var 11) (.cst (PyData.str "-"))) (.cst PyData.none) (.var 11))
def c_word_in_2 : C := (.lc (.seq (.var 9)) [11] (.name 11) .yes c_word_in_2e)
def c_word_in : C := (.seqS (.ifS (.cmp .Eq (.var 0) (.cst (PyData.str "."))) (.seqS (.ret (.tup .nil)) .skip) .skip) (.seqS (.set 8 (.split (.var 0) (.cst (PyData.str ",")))) (.seqS (.ifS (.cmp .Gt (.lenN 8) (.cst (PyData.int (60)))) (.seqS (.ret (.cst PyData.none)) .skip) .skip) (.seqS (.set 9 c_word_in_1) (.seqS (.ifS (.cmp .In (.cst PyData.none) (.var 9)) (.seqS (.ret (.cst PyData.none)) .skip) .skip) (.seqS (.ret (.bi .tuple (.cons c_word_in_2 .nil))) .skip))))))
def f_word_in : FE := { name := "word_in", ps := ["text", "is_open"], df := [.bool false], N := ["text", "is_open", "0", "1", "2", "3", "4", "5", "parts", "found", "part", "one"], code := c_word_in }
def c_show_word_1e : C := (.ifO (.cmp .Is (.var 8) (.cst PyData.none)) (.cst (PyData.str "-")) (.bi .str (.cons (.var 8) .nil)))
def c_show_word_1 : C := (.lc (.seq (.var 0)) [8] (.name 8) .yes c_show_word_1e)
def c_show_word : C := (.seqS (.ifS (.cmp .Eq (.var 0) (.tup .nil)) (.seqS (.ret (.cst (PyData.str "."))) .skip) .skip) (.seqS (.ret (.join (.cst (PyData.str ",")) c_show_word_1)) .skip))
def f_show_word : FE := { name := "show_word", ps := ["word"], df := [], N := ["word", "0", "1", "2", "3", "4", "5", "6", "place"], code := c_show_word }
def c_rows_of : C := (.seqS (.ifS (.not (.tru (.ofB (.isi (.var 0) "str")))) (.seqS (.raise "NoText" (.cst (PyData.int (0)))) .skip) .skip) (.seqS (.ret (.ifO (.cmp .NotEq (.var 0) (.cst (PyData.str ""))) (.split (.var 0) (.cst (PyData.str "\n"))) (.lst .nil))) .skip))
def f_rows_of : FE := { name := "rows_of", ps := ["text"], df := [], N := ["text", "0", "1", "2", "3", "4", "5", "6"], code := c_rows_of }
def c_thing_in : C := (.seqS (.ret (.ifO (.cmp .Eq (.var 0) (.cst (PyData.str "n"))) (.call "number_in" 1 (.cons (.argN 1) .nil) []) (.call "word_in" 2 (.cons (.argN 1) .nil) [(PyData.bool false)]))) .skip)
def f_thing_in : FE := { name := "thing_in", ps := ["sort", "word"], df := [], N := ["sort", "word", "0", "1", "2", "3", "4", "5"], code := c_thing_in }
def c_row_in_1e : C := (.call "thing_in" 2 (.cons (.argN 12) (.cons (.argN 13) .nil)) [])
def c_row_in_1 : C := (.lc (.zip (.var 10) (.var 9)) [12, 13] (.tup [12, 13]) .yes c_row_in_1e)
def c_row_in : C := (.seqS (.tgt (.star 8 9) (.split (.var 0) (.cst (PyData.str " ")))) (.seqS (.set 10 (.kget [("bolt", (PyData.str "n")), ("gap", (PyData.str "nnn")), ("way", (PyData.str "w")), ("part", (PyData.str "ww")), ("step", (PyData.str "nn")), ("use", (PyData.str "n"))] (.var 8) (.cst (PyData.str "")))) (.seqS (.ifS (.or (.cmp .Eq (.var 10) (.cst (PyData.str ""))) (.cmp .NotEq (.lenN 10) (.lenN 9))) (.seqS (.ret (.cst PyData.none)) .skip) .skip) (.seqS (.set 11 c_row_in_1) (.seqS (.ret (.ifO (.cmp .In (.cst PyData.none) (.var 11)) (.cst PyData.none) (.bin .Add (.tup (.cons (.var 8) .nil)) (.bi .tuple (.cons (.var 11) .nil))))) .skip)))))
def f_row_in : FE := { name := "row_in", ps := ["row"], df := [], N := ["row", "0", "1", "2", "3", "4", "5", "6", "first", "rest", "sorts", "found", "sort", "word"], code := c_row_in }
def c_show_lock_f1 : C := (.fstr (.cons (.fcon "bolt ") (.cons (.ffmt (.var 9)) .nil)))
def c_show_lock_f2 : C := (.fstr (.cons (.fcon "gap ") (.cons (.ffmt (.var 11)) (.cons (.fcon " ") (.cons (.ffmt (.var 12)) (.cons (.fcon " ") (.cons (.ffmt (.var 13)) .nil)))))))
def c_show_lock_f3 : C := (.fstr (.cons (.fcon "way ") (.cons (.ffmt (.call "show_word" 1 (.cons (.argN 15) .nil) [])) .nil)))
def c_show_lock_3e : C := c_show_lock_f3
def c_show_lock_3 : C := (.lc (.seq (.var 14)) [15] (.name 15) .yes c_show_lock_3e)
def c_show_lock_2b : C := (.seqS (.app 8 [] (.fr c_show_lock_f2)) (.seqS (.ext 8 c_show_lock_3) .skip))
def c_show_lock_2 : C := (.for (.seq (.var 10)) (.tup [11, 12, 13, 14]) c_show_lock_2b)
def c_show_lock_1b : C := (.seqS (.app 8 [] (.fr c_show_lock_f1)) (.seqS c_show_lock_2 .skip))
def c_show_lock_1 : C := (.for (.seq (.var 0)) (.tup [9, 10]) c_show_lock_1b)
def c_show_lock : C := (.seqS (.drop (.call "must_be_lock" 1 (.cons (.argN 0) .nil) [])) (.seqS (.set 8 (.lst .nil)) (.seqS c_show_lock_1 (.seqS (.ret (.join (.cst (PyData.str "\n")) (.var 8))) .skip))))
def f_show_lock : FE := { name := "show_lock", ps := ["lock"], df := [], N := ["lock", "0", "1", "2", "3", "4", "5", "6", "found", "many", "gaps", "here", "there", "price", "ways", "way"], code := c_show_lock }
def c_may_come : C := (.seqS (.ifS (.cmp .Eq (.var 0) (.cst (PyData.str "bolt"))) (.seqS (.ret (.cst (PyData.bool true))) .skip) .skip) (.seqS (.ret (.andV (.ofB (.cmpP .NotEq 1 [])) (.orV (.ofB (.cmp .Eq (.var 0) (.cst (PyData.str "gap")))) (.andV (.ofB (.cmp .Eq (.var 0) (.cst (PyData.str "way")))) (.ofB (.cmpP .NotEq 1 [(-1), (1)])))))) .skip))
def f_may_come : FE := { name := "may_come", ps := ["word", "found"], df := [], N := ["word", "found", "0", "1", "2", "3", "4", "5"], code := c_may_come }
def c_read_lock_1b : C := (.seqS (.set 12 (.call "row_in" 1 (.cons (.argN 11) .nil) [])) (.seqS (.ifS (.or (.cmp .Is (.var 12) (.cst PyData.none)) (.not (.tru (.call "may_come" 2 (.cons (.argV (.sub 12 (.cst (PyData.int (0))))) (.cons (.argN 9) .nil)) [])))) (.seqS (.raise "NoText" (.var 10)) .skip) .skip) (.seqS (.ifS (.cmp .Eq (.sub 12 (.cst (PyData.int (0)))) (.cst (PyData.str "bolt"))) (.seqS (.app 9 [] (.own (.cons (.sub 12 (.cst (PyData.int (1)))) (.cons (.lst .nil) .nil)))) .skip) (.seqS (.ifS (.cmp .Eq (.sub 12 (.cst (PyData.int (0)))) (.cst (PyData.str "gap"))) (.seqS (.app 9 [(-1), (1)] (.own (.cons (.sub 12 (.cst (PyData.int (1)))) (.cons (.sub 12 (.cst (PyData.int (2)))) (.cons (.sub 12 (.cst (PyData.int (3)))) (.cons (.lst .nil) .nil)))))) .skip) (.seqS (.app 9 [(-1), (1), (-1), (3)] (.fr (.sub 12 (.cst (PyData.int (1)))))) .skip)) .skip)) .skip)))
def c_read_lock_1 : C := (.for (.enum (.var 8)) (.tup [10, 11]) c_read_lock_1b)
def c_read_lock_3e : C := (.tup (.cons (.var 16) (.cons (.var 17) (.cons (.var 18) (.cons (.bi .tuple (.cons (.var 19) .nil)) .nil)))))
def c_read_lock_3 : C := (.lc (.seq (.var 15)) [16, 17, 18, 19] (.tup [16, 17, 18, 19]) .yes c_read_lock_3e)
def c_read_lock_2b : C := (.seqS (.app 13 [] (.fr (.tup (.cons (.var 14) (.cons (.bi .tuple (.cons c_read_lock_3 .nil)) .nil))))) .skip)
def c_read_lock_2 : C := (.for (.seq (.var 9)) (.tup [14, 15]) c_read_lock_2b)
def c_read_lock : C := (.seqS (.par 8 9 (.call "rows_of" 1 (.cons (.argN 0) .nil) []) (.lst .nil)) (.seqS c_read_lock_1 (.seqS (.set 13 (.lst .nil)) (.seqS c_read_lock_2 (.seqS (.ifS (.not (.tru (.call "is_lock" 1 (.cons (.argV (.bi .tuple (.cons (.var 13) .nil))) .nil) []))) (.seqS (.raise "NoText" (.lenN 8)) .skip) .skip) (.seqS (.ret (.bi .tuple (.cons (.var 13) .nil))) .skip))))))
def f_read_lock : FE := { name := "read_lock", ps := ["text"], df := [], N := ["text", "0", "1", "2", "3", "4", "5", "6", "rows", "found", "number", "line", "row", "bolts", "many", "gaps", "here", "there", "price", "ways"], code := c_read_lock }
theorem splitR_T (a : List Nat) (c : Nat) (hc : c < 256) (ha : a.length + 2 ≤ 16777216) : splitR (T a) (.str (T [c])) = some (.new ((splt c a).map fun p => .str (T p))) := by
  have h : (((T [c]).length != 0) && decide ((T a).length + 2 ≤ sizeLine)) = true := by
    rw [T_len, T_len, Bool.and_eq_true]
    exact ⟨rfl, decide_eq_true ha⟩
  show (if _ then _ else _) = _
  rw [if_pos h]
  have e := SX.split_S (a := a) (b := [c]) (by simp) (by simp [hc])
  show some (Res.new ((Txt.split (SX.S a) (SX.S [c])).map .str)) = _
  rw [e, List.map_map]
  rfl
def joinT (c : Nat) (ys : List (List Nat)) : List Nat := TL.joinL [c] ys
theorem strsD_T : ∀ ys : List (List Nat), strsD (ys.map fun p => .str (T p)) = some (ys.map T)
  | [] => rfl
  | y :: ys => by
    show (strsD (ys.map fun p => .str (T p))).map _ = _
    rw [strsD_T ys]; rfl
theorem joinD_T (c : Nat) (ys : List (List Nat)) (h : (ys.map (·.length)).sum + ys.length ≤ 16777216) : joinD (T [c]) (.list (ys.map fun p => .str (T p))) = some (.val (.str (T (joinT c ys)))) := by
  show (strsD _).bind _ = _
  rw [strsD_T, Option.bind_some]
  have e : ((ys.map T).map (·.length)) = ys.map (·.length) := by
    rw [List.map_map]; exact List.map_congr_left fun p _ => T_len p
  have k : joinR (T [c]) (ys.map T) = some (Txt.join (T [c]) (ys.map T)) := by
    unfold joinR
    rw [if_pos]
    rw [decide_eq_true_eq, e, List.length_map, T_len]
    simpa using h
  rw [k]
  show some (Res.val (.str (Txt.join (SX.S [c]) (ys.map SX.S)))) = _
  rw [SX.join_S]; rfl
/-- a number's text -/
def nT (n : Nat) : List Nat := TL.numL n
theorem nT_str (n : Nat) : Str.ofString (toString ((n : Nat) : Int)) = T (nT n) := SX.num_S n
theorem small_of {n : Nat} (h : n < 10 ^ 400) : smallI (n : Int) = true := by
  unfold smallI
  rw [decide_eq_true_eq, Int.natAbs_natCast]
  by_cases q : n = 0
  · subst q; decide
  · rw [Nat.log2_lt q]
    exact Nat.lt_of_lt_of_le h (by decide +kernel)
theorem fmt_nat {n : Nat} (h : n < 10 ^ 400) : fmtR (.int (n : Int)) = some (T (nT n)) := by
  show (if smallI _ then _ else _) = _
  rw [if_pos (small_of h)]
  exact congrArg some (nT_str n)
theorem fmt_T {a : List Nat} (h : a.length ≤ 16777216) : fmtR (.str (T a)) = some (T a) := if_pos (decide_eq_true (by rw [T_len]; exact h))
theorem str_nat {n : Nat} (h : n < 10 ^ 400) : strR [.int (n : Int)] = some (.val (.str (T (nT n)))) := by
  show (if smallI _ then _ else _) = _
  rw [if_pos (small_of h)]
  exact congrArg (fun z => some (Res.val (.str z))) (nT_str n)
structure HasT (tab : List FE) : Prop where
  number_in : At tab "number_in" f_number_in
  word_in : At tab "word_in" f_word_in
  show_word : At tab "show_word" f_show_word
  rows_of : At tab "rows_of" f_rows_of
  thing_in : At tab "thing_in" f_thing_in
  row_in : At tab "row_in" f_row_in
def isDg (c : Nat) : Bool := decide (48 ≤ c) && decide (c ≤ 57)
def numIn (a : List Nat) : Option Nat := if (1 ≤ a.length ∧ a.length ≤ 300) ∧ a.all isDg = true then (if a.head? = some 48 ∧ a ≠ [48] then none else some (NumText.digitsVal a)) else none
section
variable {tab : List FE}
@[simp] theorem isNn_natD (o : Option Nat) : isNn (natD o) = o.isNone := by cases o <;> rfl
theorem w_number_in (n : Nat) (a : List Nat) (ha : a.length ≤ 16777216) :
    (mean (denT tab n) c_number_in_1).o [some (.val (.str (T a))), none, none, none, none, none, none, none, none] = .ok (.lst (vals (a.map fun c => .bool (isDg c)))) [some (.val (.str (T a))), none, none, none, none, none, none, none, none] := by
  rw [c_number_in_1, me_lc_o]
  refine mLc_pure (fun c => .str ⟨#[c]⟩) (fun c => .bool (isDg c)) a ?_ rfl rfl rfl rfl ha fun c hc => ⟨_, rfl, rfl, rfl, ?_⟩
  · simp
  · have e : inR (.str ⟨#[c]⟩) (.str (T [48, 49, 50, 51, 52, 53, 54, 55, 56, 57])) = some (isDg c) := by
      show some (decide (c ∈ [48, 49, 50, 51, 52, 53, 54, 55, 56, 57])) = _
      congr 1
      simp only [isDg, List.mem_cons, List.not_mem_nil, or_false]
      rw [Bool.eq_iff_iff]
      simp only [decide_eq_true_eq, Bool.and_eq_true]
      omega
    simp [c_number_in_1e, e]
theorem den_number_in (H : HasT tab) (n : Nat) (a : List Nat) (ha : a.length ≤ 16777216) :
    denT tab (n + 1) "number_in" [.val (.str (T a))] = .ok (.val (natD (numIn a))) [some (.val (.str (T a)))] := by
  rw [denT_at H.number_in _ _ rfl]
  have h := w_number_in (tab := tab) n a ha
  have e1 : lenR [.str (T a)] = some (.val (.int a.length)) := by rw [lenR_str _ (by rw [T_len]; exact ha), T_len]
  have e2 : eqR (.str (T a)) (.str (T [48])) = some (decide (a = [48])) := by simp
  have e3 : allR [.list (a.map fun c => .bool (isDg c))] = some (.val (.bool (a.all isDg))) := allR_map _ _
  generalize a.map (fun c => PyData.bool (isDg c)) = ds at h e3
  unfold numIn
  by_cases q : 1 ≤ a.length ∧ a.length ≤ 300
  · have q1 : (1 : Int) ≤ a.length := by omega
    have q2 : (a.length : Int) ≤ 300 := by omega
    cases q3 : a.all isDg with
    | false =>
      rw [q3] at e3
      generalize PyData.str (T a) = A at *
      simp [f_number_in, c_number_in, h, e1, q1, q2, e3]
    | true =>
      rw [q3] at e3
      rw [if_pos ⟨q, rfl⟩]
      have hne : a ≠ [] := fun z => by rw [z] at q; simp at q
      have e4 : ∃ c, a.head? = some c ∧ ixR (.str (T a)) (.int 0) = some (.str (T [c])) := by
        obtain ⟨c, r, rfl⟩ := List.exists_cons_of_ne_nil hne
        refine ⟨c, rfl, ?_⟩
        show (if lenOk _ then _ else _) = _
        rw [if_pos (by rw [T_len]; exact decide_eq_true ha), T_cps, atI_zero]
        rfl
      obtain ⟨c, h4, e4⟩ := e4
      have e5 : intR [.str (T a)] = some (.val (.int (NumText.digitsVal a : Nat))) := by
        show (if decide _ then _ else _) = _
        rw [if_pos (by rw [T_len]; exact decide_eq_true (by omega))]
        show ((intText? (SX.S a)).map _) = _
        rw [SX.int_S (a := a) q3 hne (by omega)]
        rfl
      rw [h4]
      generalize PyData.str (T a) = A at *
      generalize NumText.digitsVal a = v at *
      simp [f_number_in, c_number_in, h, e1, q1, q2, e3, e2, e4, e5]
      grind [natD]
  · rw [if_neg (fun z => q z.1)]
    generalize PyData.str (T a) = A at *
    simp [f_number_in, c_number_in, h, e1, e3]
    intro z1 z2
    omega
end
def partIn (op : Bool) (p : List Nat) : Option (Option Nat) := if op = true ∧ p = [45] then some none else (numIn p).map some
def allS {α : Type} : List (Option α) → Option (List α)
  | [] => some []
  | none :: _ => none
  | some a :: r => (allS r).map (a :: ·)
def wordIn (op : Bool) (a : List Nat) : Option (List (Option Nat)) := if a = [46] then some [] else if (splt 44 a).length ≤ 60 then allS ((splt 44 a).map (partIn op)) else none
def oD (w : List (Option Nat)) : D := .tuple (w.map natD)
def oDO : Option (List (Option Nat)) → D
  | none => .none
  | some w => oD w
/-- a thing without parts -/
def atomB : D → Bool
  | .none => true
  | .bool _ => true
  | .int _ => true
  | .str z => PyData.strOk z
  | _ => false
theorem atom_lay {d : D} (h : atomB d = true) : d.canLay0 = true ∧ d.depth = 0 := by
  cases d <;> first | exact ⟨rfl, rfl⟩ | exact ⟨h, rfl⟩ | cases h
theorem atoms_lay : ∀ {ds : List D}, (∀ d ∈ ds, atomB d = true) → PyData.canLayAll0 ds = true ∧ PyData.depthAll ds = 0
  | [], _ => ⟨rfl, rfl⟩
  | d :: ds, h => by
    obtain ⟨h1, h2⟩ := atom_lay (h d List.mem_cons_self)
    obtain ⟨h3, h4⟩ := atoms_lay (ds := ds) fun d hd => h d (List.mem_cons_of_mem _ hd)
    exact ⟨by show (_ && _) = true; rw [h1, h3]; rfl, by show max _ _ = 0; rw [h2, h4]; rfl⟩
theorem shaped_atom {d : D} (h : atomB d = true) : SeqAt.shaped d = true := by
  obtain ⟨h1, h2⟩ := atom_lay h
  unfold SeqAt.shaped
  rw [h1, h2]; rfl
theorem shaped_atoms {ds : List D} (h : ∀ d ∈ ds, atomB d = true) : SeqAt.shaped (.list ds) = true ∧ SeqAt.shaped (.tuple ds) = true := by
  obtain ⟨h1, h2⟩ := atoms_lay h
  refine ⟨?_, ?_⟩ <;> unfold SeqAt.shaped
  · rw [show PyData.canLay0 (.list ds) = true from h1, show PyData.depth (.list ds) = PyData.depthAll ds + 1 from rfl, h2]; rfl
  · rw [show PyData.canLay0 (.tuple ds) = true from h1, show PyData.depth (.tuple ds) = PyData.depthAll ds + 1 from rfl, h2]; rfl
theorem atom_natD (o : Option Nat) : atomB (natD o) = true := by cases o <;> rfl
theorem in_none {ds : List D} (h : ∀ d ∈ ds, atomB d = true) : inR .none (.list ds) = some (ds.any isNn) := by
  show (if SeqAt.shaped .none && SeqAt.shaped (.list ds) then some (ds.any fun z => PyData.eqv z .none) else none) = _
  rw [(shaped_atoms h).1]
  rw [if_pos (by rfl)]
  congr 1
  congr 1
  funext z
  cases z <;> rfl
theorem eq_nil_tup {ds : List D} (h : ∀ d ∈ ds, atomB d = true) : eqR (.tuple ds) (.tuple []) = some (ds.isEmpty) := by
  show (if SeqAt.shaped (.tuple ds) && SeqAt.shaped (.tuple []) then some (PyData.eqv (.tuple ds) (.tuple [])) else none) = _
  rw [(shaped_atoms h).2, if_pos (by rfl)]
  cases ds <;> rfl
theorem strOk_T {a : List Nat} (h : ∀ c ∈ a, c < 1114112) : PyData.strOk (T a) = true := by
  show (T a).cps.all _ = true
  rw [← Array.all_toList, T_cps, List.all_eq_true]
  intro c hc
  exact decide_eq_true (h c hc)
theorem eq_natD_str (o : Option Nat) (a : List Nat) (h : ∀ c ∈ a, c < 1114112) : eqR (natD o) (.str (T a)) = some false := by
  have s1 := shaped_atom (d := .str (T a)) (strOk_T h)
  cases o with
  | none =>
    show (if SeqAt.shaped .none && SeqAt.shaped (.str (T a)) then _ else _) = _
    rw [s1, if_pos (by rfl)]; rfl
  | some k =>
    show (if SeqAt.shaped (.int (k : Int)) && SeqAt.shaped (.str (T a)) then _ else _) = _
    rw [s1, if_pos (by rw [shaped_atom (d := .int (k : Int)) rfl]; rfl)]; rfl
/-- what stands for a part while a word is read -/
def fD (op : Bool) (p : List Nat) : D := if op = true ∧ p = [45] then .str (T [45]) else natD (numIn p)
theorem atom_fD (op : Bool) (p : List Nat) : atomB (fD op p) = true := by
  unfold fD
  split
  · exact strOk_T (by simp)
  · exact atom_natD _
theorem nn_fD (op : Bool) (p : List Nat) : isNn (fD op p) = (partIn op p).isNone := by
  unfold fD partIn
  split
  · rfl
  · rw [isNn_natD]; cases numIn p <;> rfl
theorem any_none {α : Type} : ∀ l : List (Option α), l.any Option.isNone = (allS l).isNone
  | [] => rfl
  | none :: _ => rfl
  | some a :: r => by
    show (false || r.any Option.isNone) = ((allS r).map _).isNone
    rw [any_none r, Bool.false_or]; cases allS r <;> rfl
section
variable {tab : List FE}
theorem w_word_in_1 (H : HasT tab) (n : Nat) (a : List Nat) (op : Bool) (ps : List (List Nat)) (hp : ps.length ≤ 16777216) (hps : ∀ p ∈ ps, p.length ≤ 16777216) :
    (mean (denT tab (n + 1)) c_word_in_1).o [some (.val (.str (T a))), some (.val (.bool op)), none, none, none, none, none, none, some (.lst (vals (ps.map fun p => .str (T p)))), none, none, none] =
      .ok (.lst (vals (ps.map (fD op)))) [some (.val (.str (T a))), some (.val (.bool op)), none, none, none, none, none, none, some (.val (.list (ps.map fun p => .str (T p)))), none, none, none] := by
  rw [c_word_in_1, me_lc_o]
  refine mLc_pure (fun p => .str (T p)) (fD op) ps ?_ rfl rfl rfl rfl hp fun p hq => ⟨_, rfl, rfl, rfl, ?_⟩
  · simp
  · have h := den_number_in H n p (hps p hq)
    have e : eqR (.str (T p)) (.str (T [45])) = some (decide (p = [45])) := by simp
    unfold fD
    generalize PyData.str (T p) = P at *
    cases op
    · simp [c_word_in_1e, e, h]
    · by_cases q : p = [45]
      · simp [c_word_in_1e, e, h, q]
      · simp [c_word_in_1e, e, h, q]
theorem w_word_in_2 (n : Nat) (x : D) (op : Bool) (y : D) (ps : List (List Nat)) (hp : ps.length ≤ 16777216) :
    (mean (denT tab n) c_word_in_2).o [some (.val x), some (.val (.bool op)), none, none, none, none, none, none, some (.val y), some (.val (.list (ps.map (fD op)))), none, none] =
      .ok (.lst (vals (ps.map fun p => natD (if op = true ∧ p = [45] then none else numIn p)))) [some (.val x), some (.val (.bool op)), none, none, none, none, none, none, some (.val y), some (.val (.list (ps.map (fD op)))), none, none] := by
  rw [c_word_in_2, me_lc_o]
  refine mLc_pure (fD op) (fun p => natD (if op = true ∧ p = [45] then none else numIn p)) ps ?_ rfl rfl rfl rfl hp fun p hq => ⟨_, rfl, rfl, rfl, ?_⟩
  · simp
  · unfold fD
    by_cases q : op = true ∧ p = [45]
    · rw [if_pos q, if_pos q]
      simp [c_word_in_2e]
    · rw [if_neg q, if_neg q]
      have e := eq_natD_str (numIn p) [45] (by simp)
      simp [c_word_in_2e, e]
theorem allS_fD (op : Bool) : ∀ ps : List (List Nat), (allS (ps.map (partIn op))).isNone = false → (allS (ps.map (partIn op))) = some (ps.map fun p => if op = true ∧ p = [45] then none else numIn p)
  | [], _ => rfl
  | p :: ps, h => by
    rw [List.map_cons] at h ⊢
    have hp : partIn op p = if op = true ∧ p = [45] then some none else (numIn p).map some := rfl
    rw [List.map_cons]
    by_cases q : op = true ∧ p = [45]
    · rw [if_pos q] at hp ⊢
      rw [hp] at h ⊢
      show (allS (ps.map (partIn op))).map _ = _
      have h : ((allS (ps.map (partIn op))).map (none :: ·)).isNone = false := h
      rw [Option.isNone_map] at h
      rw [allS_fD op ps h]; rfl
    · rw [if_neg q] at hp ⊢
      rw [hp] at h ⊢
      cases hn : numIn p with
      | none => rw [hn] at h; cases h
      | some k =>
        rw [hn] at h
        have h : ((allS (ps.map (partIn op))).map (some k :: ·)).isNone = false := h
        rw [Option.isNone_map] at h
        show (allS (ps.map (partIn op))).map _ = _
        rw [allS_fD op ps h]; rfl
theorem splt_short (c : Nat) (hc : c < 256) (a p : List Nat) (h : p ∈ splt c a) : p.length ≤ a.length := by
  have e := SX.split_S (a := a) (b := [c]) (by simp) (by simp [hc])
  have hm : SX.S p ∈ Txt.split (SX.S a) (SX.S [c]) := by rw [e]; exact List.mem_map_of_mem h
  have := part_short hm
  rwa [SX.S_len, SX.S_len] at this
theorem den_word_in (H : HasT tab) (n : Nat) (a : List Nat) (op : Bool) (ha : a.length ≤ 16000000) :
    denT tab (n + 2) "word_in" [.val (.str (T a)), .val (.bool op)] = .ok (.val (oDO (wordIn op a))) [some (.val (.str (T a))), some (.val (.bool op))] := by
  rw [denT_at H.word_in _ _ rfl]
  have hl := splt_len 44 a (by omega)
  have e0 : eqR (.str (T a)) (.str (T [46])) = some (decide (a = [46])) := by simp
  unfold wordIn
  by_cases q0 : a = [46]
  · rw [if_pos q0]
    generalize PyData.str (T a) = A at *
    simp [f_word_in, c_word_in, e0, q0, oDO, oD]
  · rw [if_neg q0]
    have e1 : splitR (T a) (.str (T [44])) = some (.new ((splt 44 a).map fun p => .str (T p))) := splitR_T a 44 (by omega) (by omega)
    have h1 := w_word_in_1 H n a op (splt 44 a) (by omega) (fun p hp => by have := splt_short 44 (by omega) a p hp; omega)
    have h2 := w_word_in_2 (tab := tab) (n + 1) (.str (T a)) op (.list ((splt 44 a).map fun p => .str (T p))) (splt 44 a) (by omega)
    have e2 : lenR [.list ((splt 44 a).map fun p => .str (T p))] = some (.val (.int (splt 44 a).length)) := by simp
    have e3 := in_none (ds := (splt 44 a).map (fD op)) (fun d hd => by
      obtain ⟨p, _, rfl⟩ := List.mem_map.mp hd
      exact atom_fD op p)
    have e4 : ((splt 44 a).map (fD op)).any isNn = (allS ((splt 44 a).map (partIn op))).isNone := by
      rw [← any_none, List.any_map, List.any_map]
      congr 1; funext p; exact nn_fD op p
    rw [e4] at e3
    have e5 := allS_fD op (splt 44 a)
    generalize splt 44 a = ps at *
    have e6 : (fun p => PyData.str (T p)) = (fun p => PyData.str (T p)) := rfl
    generalize hds : ps.map (fun p => PyData.str (T p)) = ds at *
    generalize hds2 : ps.map (fD op) = ds2 at *
    by_cases q1 : ps.length ≤ 60
    · rw [if_pos q1]
      have q1' : ¬ (60 < (ps.length : Int)) := by omega
      cases q2 : (allS (ps.map (partIn op))).isNone with
      | true =>
        rw [q2] at e3
        have q3 : allS (ps.map (partIn op)) = none := by simpa using q2
        rw [q3]
        simp [f_word_in, c_word_in, q0, e1, h1, e2, q1', e3, oDO]
      | false =>
        rw [q2] at e3
        rw [e5 q2]
        generalize hds3 : ps.map (fun p => natD (if op = true ∧ p = [45] then none else numIn p)) = ds3 at *
        simp [f_word_in, c_word_in, q0, e1, h1, e2, q1', e3, h2, oDO, oD]
        rw [← hds3]; rfl
    · rw [if_neg q1]
      have q1' : (60 < (ps.length : Int)) := by omega
      simp [f_word_in, c_word_in, q0, e1, e2, q1', oDO]
end
def showP : Option Nat → List Nat
  | none => [45]
  | some k => nT k
def showW (w : List (Option Nat)) : List Nat := if w = [] then [46] else joinT 44 (w.map showP)
def FitW (w : List (Option Nat)) : Prop := (∀ k, some k ∈ w → k < 10 ^ 400) ∧ ((w.map showP).map (·.length)).sum + w.length ≤ 16000000
section
variable {tab : List FE}
theorem w_show_word (n : Nat) (w : List (Option Nat)) (h : FitW w) :
    (mean (denT tab n) c_show_word_1).o [some (.val (oD w)), none, none, none, none, none, none, none, none] = .ok (.lst (vals ((w.map showP).map fun p => .str (T p)))) [some (.val (oD w)), none, none, none, none, none, none, none, none] := by
  rw [c_show_word_1, me_lc_o, List.map_map]
  refine mLc_pure natD (fun o => .str (T (showP o))) w ?_ rfl rfl rfl rfl (by have := h.2; omega) fun o ho => ⟨_, rfl, rfl, rfl, ?_⟩
  · simp [oD]
  · cases o with
    | none => simp [c_show_word_1e, showP]
    | some k =>
      have e := str_nat (h.1 k ho)
      simp [c_show_word_1e, showP, e]
theorem den_show_word (H : HasT tab) (n : Nat) (w : List (Option Nat)) (h : FitW w) :
    denT tab (n + 1) "show_word" [.val (oD w)] = .ok (.val (.str (T (showW w)))) [some (.val (oD w))] := by
  rw [denT_at H.show_word _ _ rfl]
  have h1 := w_show_word (tab := tab) n w h
  have h2 := joinD_T 44 (w.map showP) (by have := h.2; rw [List.length_map]; omega)
  have h3 : eqR (oD w) (.tuple []) = some (decide (w = [])) := by
    show eqR (.tuple _) _ = _
    rw [eq_nil_tup (fun d hd => by obtain ⟨o, _, rfl⟩ := List.mem_map.mp hd; exact atom_natD o)]
    cases w <;> simp
  unfold showW
  generalize (w.map showP).map (fun p => PyData.str (T p)) = ds at *
  by_cases q : w = []
  · rw [if_pos q]
    rw [decide_eq_true q] at h3
    simp [f_show_word, c_show_word, h3]
  · rw [if_neg q]
    rw [decide_eq_false q] at h3
    simp [f_show_word, c_show_word, h3, h1, h2]
def rowsT (a : List Nat) : List (List Nat) := if a = [] then [] else splt 10 a
theorem den_rows_of (H : HasT tab) (n : Nat) (a : List Nat) (h : a.length ≤ 16000000) :
    denT tab (n + 1) "rows_of" [.val (.str (T a))] = .ok (.lst (vals ((rowsT a).map fun p => .str (T p)))) [some (.val (.str (T a)))] := by
  rw [denT_at H.rows_of _ _ rfl]
  have e1 := splitR_T a 10 (by omega) (by omega)
  have e2 : eqR (.str (T a)) (.str (T [])) = some (decide (a = [])) := by simp
  unfold rowsT
  by_cases q : a = []
  · subst q
    simp [f_rows_of, c_rows_of]
  · rw [if_neg q]
    generalize (splt 10 a).map (fun p => PyData.str (T p)) = ds at *
    simp [f_rows_of, c_rows_of, e1, q]
def wordC (a : List Nat) : Option (List Nat) := if a = [46] then some [] else if (splt 44 a).length ≤ 60 then allS ((splt 44 a).map numIn) else none
def nwD (w : List Nat) : D := .tuple (w.map fun (k : Nat) => PyData.int (k : Int))
def wcD : Option (List Nat) → D
  | none => .none
  | some w => nwD w
theorem allS_map {α β : Type} (f : α → β) : ∀ l : List (Option α), allS (l.map fun o => o.map f) = (allS l).map fun r => r.map f
  | [] => rfl
  | none :: _ => rfl
  | some a :: r => by
    show (allS (r.map fun o => o.map f)).map (f a :: ·) = ((allS r).map (a :: ·)).map _
    rw [allS_map f r]
    cases allS r <;> rfl
theorem wordC_eq (a : List Nat) : oDO (wordIn false a) = wcD (wordC a) := by
  unfold wordIn wordC
  split
  · rfl
  · split
    · have e : (splt 44 a).map (partIn false) = ((splt 44 a).map numIn).map fun o => o.map some := by
        rw [List.map_map]
        refine List.map_congr_left fun p _ => ?_
        show (if (false = true ∧ p = [45]) then _ else _) = _
        rw [if_neg (by simp)]
        rfl
      rw [e, allS_map]
      cases allS ((splt 44 a).map numIn) with
      | none => rfl
      | some w =>
        show oD (w.map some) = nwD w
        unfold oD nwD
        rw [List.map_map]
        rfl
    · rfl
def thingD (s : Nat) (p : List Nat) : D := if s = 110 then natD (numIn p) else wcD (wordC p)
theorem den_thing_in (H : HasT tab) (n : Nat) (s : Nat) (a : List Nat) (h : a.length ≤ 16000000) :
    denT tab (n + 3) "thing_in" [.val (.str (T [s])), .val (.str (T a))] = .ok (.val (thingD s a)) [some (.val (.str (T [s]))), some (.val (.str (T a)))] := by
  rw [denT_at H.thing_in _ _ rfl]
  have e1 := den_number_in H (n + 1) a (by omega)
  have e2 := den_word_in H n a false h
  rw [wordC_eq] at e2
  have e3 : eqR (.str (T [s])) (.str (T [110])) = some (decide (s = 110)) := by simp
  unfold thingD
  generalize PyData.str (T a) = A at *
  by_cases q : s = 110
  · subst q
    simp [f_thing_in, c_thing_in, e1]
  · simp [f_thing_in, c_thing_in, e2, q]
def sortsOf (f : List Nat) : List Nat := if f = tBolt then [110] else if f = tGap then [110, 110, 110] else if f = tWay then [119] else if f = tPart then [119, 119] else if f = tStep then [110, 110] else if f = tUse then [110] else []
def rowD (a : List Nat) : D := match splt 32 a with
  | [] => .none
  | f :: rest => if sortsOf f = [] ∨ (sortsOf f).length ≠ rest.length then .none else
    if (((sortsOf f).zip rest).map fun q => thingD q.1 q.2).any isNn then .none else .tuple (.str (T f) :: ((sortsOf f).zip rest).map fun q => thingD q.1 q.2)
/-- laid so deep at most -/
def Lay (k : Nat) (d : D) : Prop := d.canLay0 = true ∧ d.depth ≤ k
theorem Lay.atom {d : D} (h : atomB d = true) (k : Nat) : Lay k d := by
  obtain ⟨h1, h2⟩ := atom_lay h
  exact ⟨h1, by omega⟩
theorem lay_all {k : Nat} : ∀ {ds : List D}, (∀ d ∈ ds, Lay k d) → PyData.canLayAll0 ds = true ∧ PyData.depthAll ds ≤ k
  | [], _ => ⟨rfl, Nat.zero_le _⟩
  | d :: ds, h => by
    obtain ⟨h1, h2⟩ := h d List.mem_cons_self
    obtain ⟨h3, h4⟩ := lay_all (ds := ds) fun d hd => h d (List.mem_cons_of_mem _ hd)
    exact ⟨by show (_ && _) = true; rw [h1, h3]; rfl, by show max _ _ ≤ _; omega⟩
theorem Lay.list {k : Nat} {ds : List D} (h : ∀ d ∈ ds, Lay k d) : Lay (k + 1) (.list ds) := ⟨(lay_all h).1, by show PyData.depthAll ds + 1 ≤ _; have := (lay_all h).2; omega⟩
theorem Lay.tuple {k : Nat} {ds : List D} (h : ∀ d ∈ ds, Lay k d) : Lay (k + 1) (.tuple ds) := ⟨(lay_all h).1, by show PyData.depthAll ds + 1 ≤ _; have := (lay_all h).2; omega⟩
theorem Lay.shaped {k : Nat} {d : D} (h : Lay k d) (hk : k ≤ 64) : SeqAt.shaped d = true := by
  unfold SeqAt.shaped
  rw [h.1, Bool.true_and, decide_eq_true_eq]
  have := h.2; omega
theorem Lay.mono {k m : Nat} {d : D} (h : Lay k d) (hk : k ≤ m) : Lay m d := ⟨h.1, Nat.le_trans h.2 hk⟩
theorem lay_nwD (w : List Nat) : Lay 1 (nwD w) := Lay.tuple fun d hd => by
  obtain ⟨k, _, rfl⟩ := List.mem_map.mp hd
  exact Lay.atom rfl 0
theorem lay_thingD (s : Nat) (p : List Nat) : Lay 1 (thingD s p) := by
  unfold thingD
  split
  · exact Lay.atom (atom_natD _) 1
  · unfold wcD
    split
    · exact Lay.atom rfl 1
    · exact lay_nwD _
theorem in_none_lay {ds : List D} {k : Nat} (h : ∀ d ∈ ds, Lay k d) (hk : k < 64) : inR .none (.list ds) = some (ds.any isNn) := by
  show (if SeqAt.shaped .none && SeqAt.shaped (.list ds) then some (ds.any fun z => PyData.eqv z .none) else none) = _
  rw [(Lay.list h).shaped (by omega), if_pos (by rfl)]
  congr 1
  congr 1
  funext z
  cases z <;> rfl
@[simp] theorem one_T (c : Nat) : (⟨#[c]⟩ : Str) = T [c] := rfl
theorem splt_ne (c : Nat) (hc : c < 256) (a : List Nat) : splt c a ≠ [] := by
  have e := SX.split_S (a := a) (b := [c]) (by simp) (by simp [hc])
  have := split_pos (SX.S a) (SX.S [c])
  intro z
  rw [e, show TL.spl [c] 0 [] a = splt c a from rfl, z] at this
  simp at this
theorem sortsOf_len (f : List Nat) : (sortsOf f).length ≤ 3 := by
  unfold sortsOf
  repeat (split; · decide)
  decide
theorem look_sorts (f : List Nat) : (([(T tBolt, PyData.str (T [110])), (T tGap, PyData.str (T [110, 110, 110])), (T tWay, PyData.str (T [119])), (T tPart, PyData.str (T [119, 119])), (T tStep, PyData.str (T [110, 110])), (T tUse, PyData.str (T [110]))] : List (Str × D)).lookup (T f)).getD (PyData.str (T [])) = .str (T (sortsOf f)) := by
  have e : ∀ (x : List Nat), (T f == T x) = decide (f = x) := fun x => by
    by_cases q : f = x
    · subst q; simp
    · rw [decide_eq_false q, beq_eq_false_iff_ne]; simpa using q
  simp only [List.lookup_cons, e, List.lookup_nil]
  unfold sortsOf
  by_cases q1 : f = tBolt
  · simp [q1]
  by_cases q2 : f = tGap
  · simp [q1, q2]
    rw [if_neg (by decide)]; rw [decide_eq_false (by decide)]; rfl
  by_cases q3 : f = tWay
  · rw [decide_eq_false q1, decide_eq_false q2, decide_eq_true q3, if_neg q1, if_neg q2, if_pos q3]; rfl
  by_cases q4 : f = tPart
  · rw [decide_eq_false q1, decide_eq_false q2, decide_eq_false q3, decide_eq_true q4, if_neg q1, if_neg q2, if_neg q3, if_pos q4]; rfl
  by_cases q5 : f = tStep
  · rw [decide_eq_false q1, decide_eq_false q2, decide_eq_false q3, decide_eq_false q4, decide_eq_true q5, if_neg q1, if_neg q2, if_neg q3, if_neg q4, if_pos q5]; rfl
  by_cases q6 : f = tUse
  · rw [decide_eq_false q1, decide_eq_false q2, decide_eq_false q3, decide_eq_false q4, decide_eq_false q5, decide_eq_true q6, if_neg q1, if_neg q2, if_neg q3, if_neg q4, if_neg q5, if_pos q6]; rfl
  rw [decide_eq_false q1, decide_eq_false q2, decide_eq_false q3, decide_eq_false q4, decide_eq_false q5, decide_eq_false q6, if_neg q1, if_neg q2, if_neg q3, if_neg q4, if_neg q5, if_neg q6]; rfl
theorem den_row_in (H : HasT tab) (n : Nat) (a : List Nat) (ha : a.length ≤ 16000000) :
    denT tab (n + 4) "row_in" [.val (.str (T a))] = .ok (.val (rowD a)) [some (.val (.str (T a)))] := by
  rw [denT_at H.row_in _ _ rfl]
  have e1 := splitR_T a 32 (by omega) (by omega)
  have hs := fun p hp => splt_short 32 (by omega) a p hp
  have hl := splt_len 32 a (by omega)
  have hne := splt_ne 32 (by omega) a
  unfold rowD
  generalize splt 32 a = ps at *
  obtain ⟨f, rest, rfl⟩ := List.exists_cons_of_ne_nil hne
  dsimp only
  have e2 := look_sorts f
  have e3 : lenR [.str (T (sortsOf f))] = some (.val (.int (sortsOf f).length)) := by
    rw [lenR_str _ (by rw [T_len]; have := sortsOf_len f; omega), T_len]
  have e4 : eqR (.str (T (sortsOf f))) (.str (T [])) = some (decide (sortsOf f = [])) := by simp
  have e5 : zipO (.str (T (sortsOf f))) (.list (rest.map fun p => .str (T p))) = fun e => .ok (((sortsOf f).zip rest).map fun q => .tuple [.str (T [q.1]), .str (T q.2)]) e := by
    funext e
    rw [zipO_str, T_cps, zipD_map]
    rfl
  have sl := sortsOf_len f
  generalize sortsOf f = ss at *
  have w : (mean (denT tab (n + 3)) c_row_in_1).o [some (.val (.str (T a))), none, none, none, none, none, none, none, some (.val (.str (T f))), some (.lst (vals (rest.map fun p => .str (T p)))), some (.val (.str (T ss))), none, none, none] =
      .ok (.lst (vals ((ss.zip rest).map fun q => thingD q.1 q.2))) [some (.val (.str (T a))), none, none, none, none, none, none, none, some (.val (.str (T f))), some (.val (.list (rest.map fun p => .str (T p)))), some (.val (.str (T ss))), none, none, none] := by
    rw [c_row_in_1, me_lc_o]
    refine mLc_pure (fun q : Nat × List Nat => .tuple [.str (T [q.1]), .str (T q.2)]) (fun q => thingD q.1 q.2) (ss.zip rest) ?_ rfl rfl rfl rfl (by rw [List.length_zip]; omega) fun q hq => ⟨_, rfl, rfl, rfl, ?_⟩
    · simp
      exact zipD_map _ _ _ _
    · obtain ⟨s, p⟩ := q
      have h := den_thing_in H n s p (by have := hs p (List.mem_cons_of_mem _ (List.of_mem_zip hq).2); omega)
      simp [c_row_in_1e, h]
  have e6 := in_none_lay (ds := (ss.zip rest).map fun q => thingD q.1 q.2) (k := 1) (fun d hd => by
    obtain ⟨q, _, rfl⟩ := List.mem_map.mp hd
    exact lay_thingD _ _) (by omega)
  have e7 : binR .Add (.tuple [.str (T f)]) (.tuple ((ss.zip rest).map fun q => thingD q.1 q.2)) = some (.val (.tuple (.str (T f) :: (ss.zip rest).map fun q => thingD q.1 q.2))) :=
    bin_tup _ _ (by simp only [List.length_map, List.length_zip, List.length_singleton]; omega)
  have e8 : (rest.map fun p => PyData.str (T p)).length = rest.length := List.length_map ..
  rw [List.map_cons] at e1
  generalize (ss.zip rest).map (fun q => thingD q.1 q.2) = ds at *
  generalize rest.map (fun p => PyData.str (T p)) = ds2 at *
  by_cases q1 : ss = [] ∨ ss.length ≠ rest.length
  · rw [if_pos q1]
    rcases q1 with q1 | q1
    · subst q1
      simp [f_row_in, c_row_in, e1, e2, e3, e4, e8]
    · have q1' : ¬ ((ss.length : Int) = rest.length) := by omega
      simp [f_row_in, c_row_in, e1, e2, e3, e4, e8, q1']
  · rw [if_neg q1]
    have q2 : ¬ ss = [] := fun z => q1 (.inl z)
    have q3 : ((ss.length : Int) = rest.length) := by
      have : ss.length = rest.length := Classical.byContradiction fun z => q1 (.inr z)
      omega
    cases q4 : ds.any isNn with
    | true =>
      rw [q4] at e6
      simp [f_row_in, c_row_in, e1, e2, e3, e4, e8, q2, q3, w, e6]
    | false =>
      rw [q4] at e6
      simp [f_row_in, c_row_in, e1, e2, e3, e4, e8, q2, q3, w, e6, e7]
end
inductive Rw where
  | bolt (n : Nat)
  | gap (a b c : Nat)
  | way (w : List Nat)
  | part (b e : List Nat)
  | step (k t : Nat)
  | use (i : Nat)
def rwD : Option Rw → D
  | none => .none
  | some (.bolt n) => .tuple [.str (T tBolt), .int (n : Int)]
  | some (.gap a b c) => .tuple [.str (T tGap), .int (a : Int), .int (b : Int), .int (c : Int)]
  | some (.way w) => .tuple [.str (T tWay), nwD w]
  | some (.part b e) => .tuple [.str (T tPart), nwD b, nwD e]
  | some (.step k t) => .tuple [.str (T tStep), .int (k : Int), .int (t : Int)]
  | some (.use i) => .tuple [.str (T tUse), .int (i : Int)]
def rowIn (a : List Nat) : Option Rw := match splt 32 a with
  | [f, x] => if f = tBolt then (numIn x).map .bolt else if f = tWay then (wordC x).map .way else if f = tUse then (numIn x).map .use else none
  | [f, x, y] => if f = tPart then (wordC x).bind fun b => (wordC y).map fun e => .part b e else if f = tStep then (numIn x).bind fun k => (numIn y).map fun t => .step k t else none
  | [f, x, y, z] => if f = tGap then (numIn x).bind fun a => (numIn y).bind fun b => (numIn z).map fun c => .gap a b c else none
  | _ => none
theorem rowD_eq (a : List Nat) : rowD a = rwD (rowIn a) := by
  unfold rowD rowIn
  have so : ∀ f, (f = tBolt ∧ sortsOf f = [110]) ∨ (f = tGap ∧ sortsOf f = [110, 110, 110]) ∨ (f = tWay ∧ sortsOf f = [119]) ∨ (f = tPart ∧ sortsOf f = [119, 119]) ∨ (f = tStep ∧ sortsOf f = [110, 110]) ∨ (f = tUse ∧ sortsOf f = [110]) ∨ (f ≠ tBolt ∧ f ≠ tGap ∧ f ≠ tWay ∧ f ≠ tPart ∧ f ≠ tStep ∧ f ≠ tUse ∧ sortsOf f = []) := fun f => by
    by_cases q1 : f = tBolt
    · subst q1; exact .inl ⟨rfl, by decide⟩
    by_cases q2 : f = tGap
    · subst q2; exact .inr (.inl ⟨rfl, by decide⟩)
    by_cases q3 : f = tWay
    · subst q3; exact .inr (.inr (.inl ⟨rfl, by decide⟩))
    by_cases q4 : f = tPart
    · subst q4; exact .inr (.inr (.inr (.inl ⟨rfl, by decide⟩)))
    by_cases q5 : f = tStep
    · subst q5; exact .inr (.inr (.inr (.inr (.inl ⟨rfl, by decide⟩))))
    by_cases q6 : f = tUse
    · subst q6; exact .inr (.inr (.inr (.inr (.inr (.inl ⟨rfl, by decide⟩)))))
    exact .inr (.inr (.inr (.inr (.inr (.inr ⟨q1, q2, q3, q4, q5, q6, by unfold sortsOf; rw [if_neg q1, if_neg q2, if_neg q3, if_neg q4, if_neg q5, if_neg q6]⟩)))))
  have d1 : ¬ tWay = tBolt := by decide
  have d2 : ¬ tUse = tBolt := by decide
  have d3 : ¬ tUse = tWay := by decide
  have d4 : ¬ tStep = tPart := by decide
  have d5 : ¬ tGap = tBolt := by decide
  have d6 : ¬ tGap = tWay := by decide
  have d7 : ¬ tGap = tUse := by decide
  have d8 : ¬ tPart = tBolt := by decide
  have d9 : ¬ tPart = tWay := by decide
  have d10 : ¬ tPart = tUse := by decide
  have d11 : ¬ tStep = tBolt := by decide
  have d12 : ¬ tStep = tWay := by decide
  have d13 : ¬ tStep = tUse := by decide
  have d14 : ¬ tBolt = tPart := by decide
  have d15 : ¬ tBolt = tStep := by decide
  have d16 : ¬ tGap = tPart := by decide
  have d17 : ¬ tGap = tStep := by decide
  have d18 : ¬ tWay = tPart := by decide
  have d19 : ¬ tWay = tStep := by decide
  have d20 : ¬ tUse = tPart := by decide
  have d21 : ¬ tUse = tStep := by decide
  have d22 : ¬ tBolt = tGap := by decide
  have d23 : ¬ tWay = tGap := by decide
  have d24 : ¬ tPart = tGap := by decide
  have d25 : ¬ tStep = tGap := by decide
  have d26 : ¬ tUse = tGap := by decide
  rcases splt 32 a with _ | ⟨f, _ | ⟨x, _ | ⟨y, _ | ⟨z, _ | ⟨u, r⟩⟩⟩⟩⟩
  · rfl
  · rcases so f with ⟨rfl, e⟩ | ⟨rfl, e⟩ | ⟨rfl, e⟩ | ⟨rfl, e⟩ | ⟨rfl, e⟩ | ⟨rfl, e⟩ | ⟨q1, q2, q3, q4, q5, q6, e⟩ <;> simp [e, rwD]
  · rcases so f with ⟨rfl, e⟩ | ⟨rfl, e⟩ | ⟨rfl, e⟩ | ⟨rfl, e⟩ | ⟨rfl, e⟩ | ⟨rfl, e⟩ | ⟨q1, q2, q3, q4, q5, q6, e⟩
    · cases h : numIn x <;> simp [e, rwD, thingD, h]
    · simp [e, rwD, d5, d6, d7]
    · cases h : wordC x <;> simp [e, rwD, thingD, h, wcD, nwD, d1]
    · simp [e, rwD, d8, d9, d10]
    · simp [e, rwD, d11, d12, d13]
    · cases h : numIn x <;> simp [e, rwD, thingD, h, d2, d3]
    · simp [e, rwD, q1, q3, q6]
  · rcases so f with ⟨rfl, e⟩ | ⟨rfl, e⟩ | ⟨rfl, e⟩ | ⟨rfl, e⟩ | ⟨rfl, e⟩ | ⟨rfl, e⟩ | ⟨q1, q2, q3, q4, q5, q6, e⟩
    · simp [e, rwD, d14, d15]
    · simp [e, rwD, d16, d17]
    · simp [e, rwD, d18, d19]
    · cases h : wordC x <;> cases h2 : wordC y <;> simp [e, rwD, thingD, h, h2, wcD, nwD]
    · cases h : numIn x <;> cases h2 : numIn y <;> simp [e, rwD, thingD, h, h2, d4]
    · simp [e, rwD, d20, d21]
    · simp [e, rwD, q4, q5]
  · rcases so f with ⟨rfl, e⟩ | ⟨rfl, e⟩ | ⟨rfl, e⟩ | ⟨rfl, e⟩ | ⟨rfl, e⟩ | ⟨rfl, e⟩ | ⟨q1, q2, q3, q4, q5, q6, e⟩
    · simp [e, rwD, d22]
    · cases h : numIn x <;> cases h2 : numIn y <;> cases h3 : numIn z <;> simp [e, rwD, thingD, h, h2, h3]
    · simp [e, rwD, d23]
    · simp [e, rwD, d24]
    · simp [e, rwD, d25]
    · simp [e, rwD, d26]
    · simp [e, rwD, q2]
  · rcases so f with ⟨rfl, e⟩ | ⟨rfl, e⟩ | ⟨rfl, e⟩ | ⟨rfl, e⟩ | ⟨rfl, e⟩ | ⟨rfl, e⟩ | ⟨q1, q2, q3, q4, q5, q6, e⟩ <;> simp [e, rwD]
def cmpPO (op : CmpOp) (p : List Int) (c : D) (e : Env) : Option (Option O) → Out Bool
  | some (some o) => match getP o p with
    | some o' => optO (cmpR op o'.frz c) e
    | none => .no
  | _ => .no
@[simp] theorem ev_mCmpP (op : CmpOp) (i : Nat) (p : List Int) (c : D) (e : Env) : mCmpP op i p c e = cmpPO op p c e e[i]? := by
  unfold mCmpP cmpPO
  cases e[i]? with
  | none => rfl
  | some o => cases o with
    | none => rfl
    | some o =>
      dsimp only
      cases getP o p with
      | none => rfl
      | some o' => dsimp only; cases cmpR op o'.frz c <;> rfl
theorem cmpPO_at (op : CmpOp) (p : List Int) (c : D) (e : Env) (o o' : O) (h : getP o p = some o') : cmpPO op p c e (some (some o)) = optO (cmpR op o'.frz c) e := by
  show (match getP o p with | some o' => optO (cmpR op o'.frz c) e | none => .no) = _
  rw [h]
theorem getP_last (xs : List O) (o : O) (p : List Int) : getP (.lst (xs ++ [o])) (-1 :: p) = getP o p := by
  show (atI (xs ++ [o]) (-1)).bind _ = _
  rw [atI_last]; simp
theorem setP_last (f : O → Option O) (xs : List O) (o : O) (p : List Int) : setP f (.lst (xs ++ [o])) (-1 :: p) = (setP f o p).map fun o' => .lst (xs ++ [o']) := by
  show (ixN (xs ++ [o]).length (-1)).bind _ = _
  have e : ixN (xs ++ [o]).length (-1) = some xs.length := by
    unfold ixN
    rw [if_neg (by omega), if_pos (by simp; omega)]
    simp
    omega
  rw [e, Option.bind_some]
  show ((xs ++ [o])[xs.length]?).bind _ = _
  rw [List.getElem?_append_right (Nat.le_refl _)]
  simp
theorem eq_nil_lst {k : Nat} {ds : List D} (h : ∀ d ∈ ds, Lay k d) (hk : k < 64) : eqR (.list ds) (.list []) = some (ds.isEmpty) := by
  show (if SeqAt.shaped (.list ds) && SeqAt.shaped (.list []) then some (PyData.eqv (.list ds) (.list [])) else none) = _
  rw [(Lay.list h).shaped (by omega), if_pos (by rfl)]
  cases ds <;> rfl
def gFD (g : Gp) : D := .tuple [.int g.here, .int g.there, .int g.price, .list (g.ways.map wD)]
def bFD (b : Bt) : D := .tuple [.int b.many, .list (b.gaps.map gFD)]
def gO (g : Gp) : O := .tup [.val (.int g.here), .val (.int g.there), .val (.int g.price), .lst (vals (g.ways.map wD))]
def bO (b : Bt) : O := .tup [.val (.int b.many), .lst (b.gaps.map gO)]
theorem frz_gO (g : Gp) : (gO g).frz = gFD g := by simp [gO, gFD]
theorem frzs_gO (l : List Gp) : frzs (l.map gO) = l.map gFD := by
  rw [frzs_map, List.map_map]
  exact List.map_congr_left fun g _ => frz_gO g
theorem frz_bO (b : Bt) : (bO b).frz = bFD b := by simp [bO, bFD, frzs_gO]
theorem frzs_bO (l : List Bt) : frzs (l.map bO) = l.map bFD := by
  rw [frzs_map, List.map_map]
  exact List.map_congr_left fun g _ => frz_bO g
theorem lay_wD (w : List Int) : Lay 1 (wD w) := Lay.tuple fun d hd => by
  obtain ⟨k, _, rfl⟩ := List.mem_map.mp hd
  exact Lay.atom rfl 0
theorem lay_gFD (g : Gp) : Lay 3 (gFD g) := Lay.tuple fun d hd => by
  simp only [List.mem_cons, List.not_mem_nil, or_false] at hd
  rcases hd with rfl | rfl | rfl | rfl
  · exact Lay.atom rfl 2
  · exact Lay.atom rfl 2
  · exact Lay.atom rfl 2
  · exact Lay.list fun d hd => by
      obtain ⟨w, _, rfl⟩ := List.mem_map.mp hd
      exact lay_wD w
theorem lay_bFD (b : Bt) : Lay 5 (bFD b) := Lay.tuple fun d hd => by
  simp only [List.mem_cons, List.not_mem_nil, or_false] at hd
  rcases hd with rfl | rfl
  · exact Lay.atom rfl 4
  · exact Lay.list fun d hd => by
      obtain ⟨w, _, rfl⟩ := List.mem_map.mp hd
      exact lay_gFD w
def lastGaps (s : List Bt) : List Gp := match s.getLast? with
  | some b => b.gaps
  | none => []
def mayC (w : List Nat) (s : List Bt) : Bool := decide (w = tBolt) || (!s.isEmpty && (decide (w = tGap) || (decide (w = tWay) && !(lastGaps s).isEmpty)))
section
variable {tab : List FE}
theorem den_may_come (H : At tab "may_come" f_may_come) (n : Nat) (w : List Nat) (s : List Bt) :
    denT tab (n + 1) "may_come" [.val (.str (T w)), .lst (s.map bO)] = .ok (.val (.bool (mayC w s))) [some (.val (.str (T w))), some (.lst (s.map bO))] := by
  rw [denT_at H _ _ rfl]
  have e1 : cmpPO .NotEq [] (.list []) [some (.val (.str (T w))), some (.lst (s.map bO)), none, none, none, none, none, none] (some (some (.lst (s.map bO)))) = .ok (!s.isEmpty) [some (.val (.str (T w))), some (.lst (s.map bO)), none, none, none, none, none, none] := by
    rw [cmpPO_at _ _ _ _ _ (.lst (s.map bO)) rfl, frz_lst, frzs_bO, cmp_ne, eq_nil_lst (k := 5) (fun d hd => by
      obtain ⟨b, _, rfl⟩ := List.mem_map.mp hd
      exact lay_bFD b) (by omega)]
    cases s <;> rfl
  unfold mayC
  have t1 : eqR (.str (T w)) (.str (T tBolt)) = some (decide (w = tBolt)) := by simp
  have t2 : eqR (.str (T w)) (.str (T tGap)) = some (decide (w = tGap)) := by simp
  have t3 : eqR (.str (T w)) (.str (T tWay)) = some (decide (w = tWay)) := by simp
  generalize decide (w = tBolt) = b1 at *
  generalize decide (w = tGap) = b2 at *
  generalize decide (w = tWay) = b3 at *
  generalize PyData.str (T w) = W at *
  rcases List.eq_nil_or_concat s with rfl | ⟨s', b, rfl⟩
  · cases b1
    · simp at e1
      simp [f_may_come, c_may_come, t1, e1]
    · simp [f_may_come, c_may_come, t1]
  · have e2 : cmpPO .NotEq [-1, 1] (.list []) [some (.val W), some (.lst ((s'.concat b).map bO)), none, none, none, none, none, none] (some (some (.lst ((s'.concat b).map bO)))) = .ok (!b.gaps.isEmpty) [some (.val W), some (.lst ((s'.concat b).map bO)), none, none, none, none, none, none] := by
      rw [cmpPO_at _ _ _ _ _ (.lst (b.gaps.map gO)) (by rw [List.concat_eq_append, List.map_append, List.map_singleton, getP_last]; rfl), frz_lst, frzs_gO, cmp_ne, eq_nil_lst (k := 3) (fun d hd => by
        obtain ⟨g, _, rfl⟩ := List.mem_map.mp hd
        exact lay_gFD g) (by omega)]
      cases b.gaps <;> rfl
    have e3 : lastGaps (s'.concat b) = b.gaps := by simp [lastGaps]
    have e4 : (s'.concat b).isEmpty = false := by simp
    rw [e4] at e1 ⊢
    rw [e3]
    generalize (s'.concat b).map bO = os at *
    generalize b.gaps.isEmpty = b4 at *
    cases b1
    · simp [f_may_come, c_may_come, t1, t2, t3, e1, e2]
    · simp [f_may_come, c_may_come, t1]
end
def addGap (s : List Bt) (g : Gp) : Option (List Bt) := match s.getLast? with
  | none => none
  | some b => some (s.dropLast ++ [⟨b.many, b.gaps ++ [g]⟩])
def addWay (s : List Bt) (w : List Int) : Option (List Bt) := match s.getLast? with
  | none => none
  | some b => match b.gaps.getLast? with
    | none => none
    | some g => some (s.dropLast ++ [⟨b.many, b.gaps.dropLast ++ [⟨g.here, g.there, g.price, g.ways ++ [w]⟩]⟩])
def orRow (o : Option (List Bt)) (k : Nat) : List Bt ⊕ Nat := match o with
  | some s => .inl s
  | none => .inr k
def rdStep (s : List Bt) (q : List Nat × Nat) : List Bt ⊕ Nat := match rowIn q.1 with
  | some (.bolt n) => .inl (s ++ [⟨n, []⟩])
  | some (.gap a b c) => orRow (addGap s ⟨a, b, c, []⟩) q.2
  | some (.way w) => orRow (addWay s (w.map fun (k : Nat) => (k : Int))) q.2
  | _ => .inr q.2
def readB (a : List Nat) : List Bt ⊕ Nat := foldS rdStep (rowsT a).zipIdx []
/-- how much was read -/
def szG (g : Gp) : Nat := 1 + g.ways.length
def szB (b : Bt) : Nat := 1 + (b.gaps.map szG).sum
def szL (s : List Bt) : Nat := (s.map szB).sum
def WdL (s : List Bt) : Prop := ∀ b ∈ s, ∀ g ∈ b.gaps, ∀ w ∈ g.ways, w.length ≤ 60
theorem allS_len {α : Type} : ∀ {l : List (Option α)} {w : List α}, allS l = some w → w.length = l.length
  | [], w, h => by cases h; rfl
  | none :: _, _, h => by cases h
  | some a :: r, w, h => by
    have h : (allS r).map (a :: ·) = some w := h
    rw [Option.map_eq_some_iff] at h
    obtain ⟨w', h1, rfl⟩ := h
    rw [List.length_cons, List.length_cons, allS_len h1]
theorem wordC_len {a w : List Nat} (h : wordC a = some w) : w.length ≤ 60 := by
  unfold wordC at h
  split at h
  · cases h; simp
  · split at h
    · have := allS_len h; rw [List.length_map] at this; omega
    · cases h
theorem rowIn_way {a w : List Nat} (h : rowIn a = some (.way w)) : w.length ≤ 60 := by
  unfold rowIn at h
  split at h
  · split at h
    · cases e : numIn _ <;> rw [e] at h <;> cases h
    · split at h
      · cases e : wordC _ with
        | none => rw [e] at h; cases h
        | some v => rw [e] at h; cases h; exact wordC_len e
      · split at h
        · cases e : numIn _ <;> rw [e] at h <;> cases h
        · cases h
  · split at h
    · cases e : wordC _ with
      | none => rw [e] at h; cases h
      | some v =>
        rw [e] at h
        rename_i y _ _
        cases e2 : wordC y <;> simp [e2] at h
    · split at h
      · cases e : numIn _ with
        | none => rw [e] at h; cases h
        | some v =>
          rw [e] at h
          rename_i y _ _ _
          cases e2 : numIn y <;> simp [e2] at h
      · cases h
  · split at h
    · simp only [Option.bind_eq_some_iff, Option.map_eq_some_iff] at h
      obtain ⟨_, _, _, _, _, _, h⟩ := h
      cases h
    · cases h
  · cases h
section
variable {tab : List FE}
def rdEnc (a : List Nat) (s : List Bt) (x : Option O × Option O × Option O) : Env :=
  [some (.val (.str (T a))), none, none, none, none, none, none, none, some (.val (.list ((rowsT a).map fun p => .str (T p)))), some (.lst (s.map bO)), x.1, x.2.1, x.2.2, none, none, none, none, none, none, none]
theorem appC_ok (i : Nat) (p : List Int) (o x o' : O) (e : Env) (h : setP (appO x) o p = some o') : appC i p o (.ok x e) = .ok .nx (e.set i (some o')) := by
  show (match setP (appO x) o p with | some o' => Out.ok Fl.nx (e.set i (some o')) | none => .no) = _
  rw [h]
theorem appO_lst (x : O) (os : List O) (h : os.length < 16777216) : appO x (.lst os) = some (.lst (os ++ [x])) := if_pos (decide_eq_true h)
theorem setP_gap (s : List Bt) (b : Bt) (g : Gp) (h : b.gaps.length < 16777216) :
    setP (appO (gO g)) (.lst ((s ++ [b]).map bO)) [-1, 1] = some (.lst ((s ++ [(⟨b.many, b.gaps ++ [g]⟩ : Bt)]).map bO)) := by
  rw [List.map_append, List.map_singleton, setP_last]
  have e : setP (appO (gO g)) (bO b) [1] = some (bO ⟨b.many, b.gaps ++ [g]⟩) := by
    show ((setP (appO (gO g)) (.lst (b.gaps.map gO)) []).map fun o' => O.tup [.val (.int b.many), o']) = _
    show ((appO (gO g) (.lst (b.gaps.map gO))).map _) = _
    rw [appO_lst _ _ (by rw [List.length_map]; exact h)]
    simp [bO]
  rw [e]
  simp
theorem setP_way (s : List Bt) (m : Int) (gs : List Gp) (g : Gp) (w : List Int) (h : g.ways.length < 16777216) :
    setP (appO (.val (wD w))) (.lst ((s ++ [(⟨m, gs ++ [g]⟩ : Bt)]).map bO)) [-1, 1, -1, 3] = some (.lst ((s ++ [(⟨m, gs ++ [⟨g.here, g.there, g.price, g.ways ++ [w]⟩]⟩ : Bt)]).map bO)) := by
  rw [List.map_append, List.map_singleton, setP_last]
  have e3 : setP (appO (.val (wD w))) (gO g) [3] = some (gO ⟨g.here, g.there, g.price, g.ways ++ [w]⟩) := by
    show ((appO (.val (wD w)) (.lst (vals (g.ways.map wD)))).map fun o' => O.tup [.val (.int g.here), .val (.int g.there), .val (.int g.price), o']) = _
    rw [appO_lst _ _ (by rw [vals_length, List.length_map]; exact h)]
    simp [gO]
  have e2 : setP (appO (.val (wD w))) (.lst ((gs ++ [g]).map gO)) [-1, 3] = some (.lst ((gs ++ [(⟨g.here, g.there, g.price, g.ways ++ [w]⟩ : Gp)]).map gO)) := by
    rw [List.map_append, List.map_singleton, setP_last, e3]
    simp
  have e : setP (appO (.val (wD w))) (bO ⟨m, gs ++ [g]⟩) [1, -1, 3] = some (bO ⟨m, gs ++ [⟨g.here, g.there, g.price, g.ways ++ [w]⟩]⟩) := by
    show ((setP (appO (.val (wD w))) (.lst ((gs ++ [g]).map gO)) [-1, 3]).map fun o' => O.tup [.val (.int m), o']) = _
    rw [e2]
    rfl
  rw [e]
  simp
theorem getP_gap (s : List Bt) (b : Bt) : getP (.lst ((s ++ [b]).map bO)) [-1, 1] = some (.lst (b.gaps.map gO)) := by
  rw [List.map_append, List.map_singleton, getP_last]; rfl
theorem getP_way (s : List Bt) (m : Int) (gs : List Gp) (g : Gp) : getP (.lst ((s ++ [(⟨m, gs ++ [g]⟩ : Bt)]).map bO)) [-1, 1, -1, 3] = some (.lst (vals (g.ways.map wD))) := by
  rw [List.map_append, List.map_singleton, getP_last]
  show getP (.lst ((gs ++ [g]).map gO)) [-1, 3] = _
  rw [List.map_append, List.map_singleton, getP_last]; rfl
theorem nwD_wD (w : List Nat) : nwD w = wD (w.map fun (k : Nat) => (k : Int)) := by
  unfold nwD wD; rw [List.map_map]; rfl
structure HasR (tab : List FE) : Prop where
  may_come : At tab "may_come" f_may_come
  read_lock : At tab "read_lock" f_read_lock
  is_lock : At tab "is_lock" f_is_lock
theorem szL_app (s : List Bt) (b : Bt) : szL (s ++ [b]) = szL s + szB b := by simp [szL]
theorem szB_gap (m : Int) (gs : List Gp) (g : Gp) : szB ⟨m, gs ++ [g]⟩ = szB ⟨m, gs⟩ + szG g := by simp [szB]; omega
theorem len_szL (s : List Bt) : s.length ≤ szL s := by
  unfold szL
  induction s with
  | nil => simp
  | cons b s ih => rw [List.map_cons, List.sum_cons, List.length_cons]; exact Nat.add_comm s.length 1 ▸ Nat.add_le_add (by unfold szB; omega) ih
theorem len_szB (b : Bt) : b.gaps.length + 1 ≤ szB b := by
  unfold szB
  have : b.gaps.length ≤ (b.gaps.map szG).sum := by
    induction b.gaps with
    | nil => simp
    | cons b s ih => rw [List.map_cons, List.sum_cons, List.length_cons]; exact Nat.add_comm s.length 1 ▸ Nat.add_le_add (by unfold szG; omega) ih
  omega
theorem rd_none (HT : HasT tab) (n : Nat) (a : List Nat) (s : List Bt) (x : Option O) (line : List Nat) (i : Nat) (hl : line.length ≤ 16000000) (h : rowIn line = none) :
    (mean (denT tab (n + 5)) c_read_lock_1b).s (rdEnc a s (some (.val (.int (i : Int))), some (.val (.str (T line))), x)) = .exc ⟨"NoText", some (.int (i : Int))⟩ (rdEnc a s (some (.val (.int (i : Int))), some (.val (.str (T line))), some (.val (rwD (rowIn line))))) := by
  have e1 := den_row_in HT (n + 1) line hl
  rw [rowD_eq, h] at e1
  rw [h]
  simp [c_read_lock_1b, rdEnc, e1, rwD]
/-- a row that may not come there -/
theorem rd_not (HT : HasT tab) (HR : HasR tab) (n : Nat) (a : List Nat) (s : List Bt) (x : Option O) (line : List Nat) (i : Nat) (hl : line.length ≤ 16000000) (w : List Nat) (ds : List D) (h : rwD (rowIn line) = .tuple (.str (T w) :: ds)) (hm : mayC w s = false) :
    (mean (denT tab (n + 5)) c_read_lock_1b).s (rdEnc a s (some (.val (.int (i : Int))), some (.val (.str (T line))), x)) = .exc ⟨"NoText", some (.int (i : Int))⟩ (rdEnc a s (some (.val (.int (i : Int))), some (.val (.str (T line))), some (.val (rwD (rowIn line))))) := by
  have e1 := den_row_in HT (n + 1) line hl
  rw [rowD_eq, h] at e1
  have may := den_may_come HR.may_come (n + 4) w s
  rw [hm] at may
  rw [h]
  simp [c_read_lock_1b, rdEnc, e1, may]
theorem rd_bolt (HT : HasT tab) (HR : HasR tab) (n : Nat) (a : List Nat) (s : List Bt) (x : Option O) (line : List Nat) (i : Nat) (hl : line.length ≤ 16000000) (m : Nat) (h : rowIn line = some (.bolt m)) (hs : s.length < 16777216) :
    (mean (denT tab (n + 5)) c_read_lock_1b).s (rdEnc a s (some (.val (.int (i : Int))), some (.val (.str (T line))), x)) = .ok .nx (rdEnc a (s ++ [(⟨(m : Int), []⟩ : Bt)]) (some (.val (.int (i : Int))), some (.val (.str (T line))), some (.val (rwD (rowIn line))))) := by
  have e1 := den_row_in HT (n + 1) line hl
  rw [rowD_eq, h] at e1
  have may := den_may_come HR.may_come (n + 4) tBolt s
  rw [show mayC tBolt s = true by simp [mayC]] at may
  rw [h]
  simp [c_read_lock_1b, rdEnc, e1, rwD, may, hs, bO]
theorem rd_gap (HT : HasT tab) (HR : HasR tab) (n : Nat) (a : List Nat) (s : List Bt) (bt : Bt) (x : Option O) (line : List Nat) (i : Nat) (hl : line.length ≤ 16000000) (b c d : Nat) (h : rowIn line = some (.gap b c d)) (hs : bt.gaps.length < 16777216) :
    (mean (denT tab (n + 5)) c_read_lock_1b).s (rdEnc a (s ++ [bt]) (some (.val (.int (i : Int))), some (.val (.str (T line))), x)) = .ok .nx (rdEnc a (s ++ [(⟨bt.many, bt.gaps ++ [⟨b, c, d, []⟩]⟩ : Bt)]) (some (.val (.int (i : Int))), some (.val (.str (T line))), some (.val (rwD (rowIn line))))) := by
  have e1 := den_row_in HT (n + 1) line hl
  rw [rowD_eq, h] at e1
  have t1 : ¬ (tGap = tBolt) := by decide
  have may := den_may_come HR.may_come (n + 4) tGap (s ++ [bt])
  rw [show mayC tGap (s ++ [bt]) = true by simp [mayC]] at may
  rw [h]
  have e2 := setP_gap s bt ⟨b, c, d, []⟩ hs
  have e3 := getP_gap s bt
  unfold rdEnc
  generalize (s ++ [(⟨bt.many, bt.gaps ++ [⟨b, c, d, []⟩]⟩ : Bt)]).map bO = os2 at *
  generalize (s ++ [bt]).map bO = os at *
  have e5 : ∀ m, sAppQ 9 [-1, 1] m [some (.val (.str (T a))), none, none, none, none, none, none, none, some (.val (.list ((rowsT a).map fun p => .str (T p)))), some (.lst os), some (.val (.int (i : Int))), some (.val (.str (T line))), some (.val (.tuple [.str (T tGap), .int b, .int c, .int d])), none, none, none, none, none, none, none] = _ := fun m => ev_sAppP 9 [-1, 1] m _ (.lst os) _ rfl e3
  have e6 := fun e => appC_ok 9 [-1, 1] (.lst os) (.tup [.val (.int b), .val (.int c), .val (.int d), .lst []]) _ e e2
  simp [c_read_lock_1b, e1, rwD, may, t1, e5, e6]
theorem rd_way (HT : HasT tab) (HR : HasR tab) (n : Nat) (a : List Nat) (s : List Bt) (m : Int) (gs : List Gp) (g : Gp) (x : Option O) (line : List Nat) (i : Nat) (hl : line.length ≤ 16000000) (w : List Nat) (h : rowIn line = some (.way w)) (hs : g.ways.length < 16777216) :
    (mean (denT tab (n + 5)) c_read_lock_1b).s (rdEnc a (s ++ [(⟨m, gs ++ [g]⟩ : Bt)]) (some (.val (.int (i : Int))), some (.val (.str (T line))), x)) = .ok .nx (rdEnc a (s ++ [(⟨m, gs ++ [⟨g.here, g.there, g.price, g.ways ++ [w.map fun (k : Nat) => (k : Int)]⟩]⟩ : Bt)]) (some (.val (.int (i : Int))), some (.val (.str (T line))), some (.val (rwD (rowIn line))))) := by
  have e1 := den_row_in HT (n + 1) line hl
  rw [rowD_eq, h] at e1
  have t1 : ¬ (tWay = tBolt) := by decide
  have t2 : ¬ (tWay = tGap) := by decide
  have may := den_may_come HR.may_come (n + 4) tWay (s ++ [(⟨m, gs ++ [g]⟩ : Bt)])
  rw [show mayC tWay (s ++ [(⟨m, gs ++ [g]⟩ : Bt)]) = true by simp [mayC, lastGaps]] at may
  rw [h]
  have e2 := setP_way s m gs g (w.map fun (k : Nat) => (k : Int)) hs
  have e3 := getP_way s m gs g
  rw [← nwD_wD] at e2
  unfold rdEnc
  generalize (s ++ [(⟨m, gs ++ [⟨g.here, g.there, g.price, g.ways ++ [w.map fun (k : Nat) => (k : Int)]⟩]⟩ : Bt)]).map bO = os2 at *
  generalize (s ++ [(⟨m, gs ++ [g]⟩ : Bt)]).map bO = os at *
  have e5 : ∀ m, sAppQ 9 [-1, 1, -1, 3] m [some (.val (.str (T a))), none, none, none, none, none, none, none, some (.val (.list ((rowsT a).map fun p => .str (T p)))), some (.lst os), some (.val (.int (i : Int))), some (.val (.str (T line))), some (.val (.tuple [.str (T tWay), nwD w])), none, none, none, none, none, none, none] = _ := fun m => ev_sAppP 9 [-1, 1, -1, 3] m _ (.lst os) _ rfl e3
  have e6 := fun e => appC_ok 9 [-1, 1, -1, 3] (.lst os) (.val (nwD w)) _ e e2
  simp [c_read_lock_1b, e1, rwD, may, t1, t2, e5, e6]
theorem rd_step (HT : HasT tab) (HR : HasR tab) (n : Nat) (a : List Nat) (s : List Bt) (x : Option O) (line : List Nat) (i : Nat) (hl : line.length ≤ 16000000) (hs : szL s < 16777216) :
    match rdStep s (line, i) with
    | .inl s' => szL s' ≤ szL s + 1 ∧ (WdL s → WdL s') ∧ (mean (denT tab (n + 5)) c_read_lock_1b).s (rdEnc a s (some (.val (.int (i : Int))), some (.val (.str (T line))), x)) = .ok .nx (rdEnc a s' (some (.val (.int (i : Int))), some (.val (.str (T line))), some (.val (rwD (rowIn line)))))
    | .inr k => (mean (denT tab (n + 5)) c_read_lock_1b).s (rdEnc a s (some (.val (.int (i : Int))), some (.val (.str (T line))), x)) = .exc ⟨"NoText", some (.int (k : Int))⟩ (rdEnc a s (some (.val (.int (i : Int))), some (.val (.str (T line))), some (.val (rwD (rowIn line))))) := by
  have hs1 := len_szL s
  have no : ∀ w ds, rwD (rowIn line) = .tuple (.str (T w) :: ds) → mayC w s = false → (mean (denT tab (n + 5)) c_read_lock_1b).s (rdEnc a s (some (.val (.int (i : Int))), some (.val (.str (T line))), x)) = .exc ⟨"NoText", some (.int (i : Int))⟩ (rdEnc a s (some (.val (.int (i : Int))), some (.val (.str (T line))), some (.val (rwD (rowIn line))))) := fun w ds h1 h2 => rd_not HT HR n a s x line i hl w ds h1 h2
  have t1 : ¬ (tGap = tBolt) := by decide
  have t2 : ¬ (tWay = tBolt) := by decide
  have t3 : ¬ (tWay = tGap) := by decide
  have t4 : ¬ (tPart = tBolt) := by decide
  have t5 : ¬ (tPart = tGap) := by decide
  have t6 : ¬ (tPart = tWay) := by decide
  have t7 : ¬ (tStep = tBolt) := by decide
  have t8 : ¬ (tStep = tGap) := by decide
  have t9 : ¬ (tStep = tWay) := by decide
  have u1 : ¬ (tUse = tBolt) := by decide
  have u2 : ¬ (tUse = tGap) := by decide
  have u3 : ¬ (tUse = tWay) := by decide
  cases h : rowIn line with
  | none =>
    rw [show rdStep s (line, i) = .inr i by unfold rdStep; rw [h]]
    rw [← h]
    exact rd_none HT n a s x line i hl h
  | some r =>
    cases r with
    | bolt m =>
      rw [show rdStep s (line, i) = .inl (s ++ [⟨m, []⟩]) by unfold rdStep; rw [h]]
      refine ⟨by rw [szL_app]; simp [szB], fun hw b hb => ?_, by rw [← h]; exact rd_bolt HT HR n a s x line i hl m h (by omega)⟩
      rcases List.mem_append.mp hb with hb | hb
      · exact hw b hb
      · rw [List.mem_singleton] at hb; subst hb; intro g hg; simp at hg
    | gap b c d =>
      rcases List.eq_nil_or_concat s with rfl | ⟨s', bt, rfl⟩
      · rw [show rdStep [] (line, i) = .inr i by unfold rdStep; rw [h]; rfl]
        rw [← h]
        exact no tGap _ (by rw [h]; rfl) (by simp [mayC, t1])
      · rw [List.concat_eq_append] at *
        have e : rdStep (s' ++ [bt]) (line, i) = .inl (s' ++ [⟨bt.many, bt.gaps ++ [⟨b, c, d, []⟩]⟩]) := by unfold rdStep; rw [h]; simp [addGap, orRow]
        rw [e]
        rw [szL_app] at hs ⊢
        have := len_szB bt
        refine ⟨?_, fun hw b' hb => ?_, by rw [← h]; exact rd_gap HT HR n a s' bt x line i hl b c d h (by omega)⟩
        · show szL (s' ++ [_]) ≤ _
          rw [szL_app, szB_gap, show szB ⟨bt.many, bt.gaps⟩ = szB bt from rfl]; simp [szG]; omega
        · rcases List.mem_append.mp hb with hb | hb
          · exact hw b' (List.mem_append_left _ hb)
          · rw [List.mem_singleton] at hb; subst hb; intro g hg w hw2
            rcases List.mem_append.mp hg with hg | hg
            · exact hw bt (List.mem_append_right _ (List.mem_singleton.mpr rfl)) g hg w hw2
            · rw [List.mem_singleton] at hg; subst hg; simp at hw2
    | way w =>
      rcases List.eq_nil_or_concat s with rfl | ⟨s', bt, rfl⟩
      · rw [show rdStep [] (line, i) = .inr i by unfold rdStep; rw [h]; rfl]
        rw [← h]
        exact no tWay _ (by rw [h]; rfl) (by simp [mayC, t2])
      · obtain ⟨m, gaps⟩ := bt
        rw [List.concat_eq_append] at *
        rcases List.eq_nil_or_concat gaps with rfl | ⟨gs, g, rfl⟩
        · rw [show rdStep (s' ++ [⟨m, []⟩]) (line, i) = .inr i by unfold rdStep; rw [h]; simp [addWay, orRow]]
          rw [← h]
          exact no tWay _ (by rw [h]; rfl) (by simp [mayC, t2, t3, lastGaps])
        · rw [List.concat_eq_append] at *
          have e : rdStep (s' ++ [⟨m, gs ++ [g]⟩]) (line, i) = .inl (s' ++ [⟨m, gs ++ [⟨g.here, g.there, g.price, g.ways ++ [w.map fun (k : Nat) => (k : Int)]⟩]⟩]) := by unfold rdStep; rw [h]; simp [addWay, orRow]
          rw [e]
          rw [szL_app, szB_gap] at hs ⊢
          refine ⟨?_, fun hw b' hb => ?_, by rw [← h]; exact rd_way HT HR n a s' m gs g x line i hl w h (by unfold szG at hs; omega)⟩
          · show szL (s' ++ [_]) ≤ _
            rw [szL_app, szB_gap]; simp [szG]; omega
          · rcases List.mem_append.mp hb with hb | hb
            · exact hw b' (List.mem_append_left _ hb)
            · rw [List.mem_singleton] at hb; subst hb; intro g' hg w' hw2
              rcases List.mem_append.mp hg with hg | hg
              · exact hw _ (List.mem_append_right _ (List.mem_singleton.mpr rfl)) g' (List.mem_append_left _ hg) w' hw2
              · rw [List.mem_singleton] at hg; subst hg
                rcases List.mem_append.mp hw2 with hw2 | hw2
                · exact hw _ (List.mem_append_right _ (List.mem_singleton.mpr rfl)) g (List.mem_append_right _ (List.mem_singleton.mpr rfl)) w' hw2
                · rw [List.mem_singleton] at hw2; subst hw2; rw [List.length_map]; exact rowIn_way h
    | part b e =>
      rw [show rdStep s (line, i) = .inr i by unfold rdStep; rw [h]]
      rw [← h]
      exact no tPart _ (by rw [h]; rfl) (by simp [mayC, t4, t5, t6])
    | step k t =>
      rw [show rdStep s (line, i) = .inr i by unfold rdStep; rw [h]]
      rw [← h]
      exact no tStep _ (by rw [h]; rfl) (by simp [mayC, t7, t8, t9])
    | use k =>
      rw [show rdStep s (line, i) = .inr i by unfold rdStep; rw [h]]
      rw [← h]
      exact no tUse _ (by rw [h]; rfl) (by simp [mayC, u1, u2, u3])
end
theorem le_sum {α : Type} (f : α → Nat) : ∀ {l : List α} {x : α}, x ∈ l → f x ≤ (l.map f).sum
  | y :: l, x, h => by
    rw [List.map_cons, List.sum_cons]
    rcases List.mem_cons.mp h with rfl | h
    · omega
    · have := le_sum f h; omega
theorem sum_le {α : Type} (f g : α → Nat) : ∀ {l : List α}, (∀ x ∈ l, f x ≤ g x) → (l.map f).sum ≤ (l.map g).sum
  | [], _ => Nat.le_refl _
  | y :: l, h => by
    rw [List.map_cons, List.sum_cons, List.map_cons, List.sum_cons]
    have := sum_le f g (l := l) fun x hx => h x (List.mem_cons_of_mem _ hx)
    have := h y List.mem_cons_self
    omega
theorem fit_of_sz {s : List Bt} (h : szL s ≤ 16777216) (hw : WdL s) : FitL s := fun b hb => by
  have h1 : szB b ≤ szL s := le_sum szB hb
  have h2 := len_szB b
  refine ⟨⟨by omega, fun g hg => ⟨?_, fun w hw2 => by have := hw b hb g hg w hw2; omega⟩⟩, ?_⟩
  · have h3 : 1 + g.ways.length ≤ (b.gaps.map szG).sum := le_sum szG hg
    have h4 : szB b = 1 + (b.gaps.map szG).sum := rfl
    omega
  · have h4 := sum_le (fun g : Gp => g.ways.length) szG (l := b.gaps) fun g _ => by unfold szG; omega
    unfold szB at h1
    omega
section
variable {tab : List FE}
theorem rd_loop (HT : HasT tab) (HR : HasR tab) (n : Nat) (a : List Nat) (ha : a.length ≤ 16000000) :
    match readB a with
    | .inl s => (szL s ≤ 16000001 ∧ WdL s) ∧ ∃ x, (mean (denT tab (n + 5)) c_read_lock_1).s [some (.val (.str (T a))), none, none, none, none, none, none, none, some (.lst (vals ((rowsT a).map fun p => .str (T p)))), some (.lst []), none, none, none, none, none, none, none, none, none, none] = .ok .nx (rdEnc a s x)
    | .inr k => ∃ s x, (mean (denT tab (n + 5)) c_read_lock_1).s [some (.val (.str (T a))), none, none, none, none, none, none, none, some (.lst (vals ((rowsT a).map fun p => .str (T p)))), some (.lst []), none, none, none, none, none, none, none, none, none, none] = .exc ⟨"NoText", some (.int (k : Int))⟩ (rdEnc a s x) := by
  have hr : (rowsT a).length ≤ a.length + 1 := by
    unfold rowsT; split
    · simp
    · exact splt_len 10 a (by omega)
  have hs : ∀ p ∈ rowsT a, p.length ≤ a.length := fun p hp => by
    unfold rowsT at hp; split at hp
    · simp at hp
    · exact splt_short 10 (by omega) a p hp
  have it : (mean (denT tab (n + 5)) (.enum (.var 8))).i [some (.val (.str (T a))), none, none, none, none, none, none, none, some (.lst (vals ((rowsT a).map fun p => .str (T p)))), some (.lst []), none, none, none, none, none, none, none, none, none, none] =
      .ok ((rowsT a).zipIdx.map fun q => .tuple [.int (q.2 : Int), .str (T q.1)]) (rdEnc a [] (none, none, none)) := by
    simp [numD_map, rdEnc]
  have k := forGo_foldS (σ := List Bt) (χ := Option O × Option O × Option O) (rdEnc a) (fun q : List Nat × Nat => .tuple [.int (q.2 : Int), .str (T q.1)]) rdStep (fun k e => .exc ⟨"NoText", some (.int (k : Int))⟩ e) (tg := tgF [] (.tup [10, 11])) (body := (mean (denT tab (n + 5)) c_read_lock_1b).s)
    (fun rem s => szL s + rem.length ≤ (rowsT a).length ∧ WdL s) (fun r e => .inr ⟨_, rfl⟩) (rowsT a).zipIdx (fun s x q r hq hi => by
      obtain ⟨line, i⟩ := q
      have hm := List.mem_zipIdx hq
      have hline : line ∈ rowsT a := by rw [hm.2.2]; exact List.getElem_mem _
      rw [List.length_cons] at hi
      have st := rd_step HT HR n a s x.2.2 line i (by have := hs line hline; omega) (by omega)
      refine ⟨rdEnc a s (some (.val (.int (i : Int))), some (.val (.str (T line))), x.2.2), rfl, ?_⟩
      cases e : rdStep s (line, i) with
      | inl s' =>
        rw [e] at st
        exact ⟨⟨by have := st.1; omega, st.2.1 hi.2⟩, _, .inl st.2.2⟩
      | inr j =>
        rw [e] at st
        exact ⟨s, _, st⟩) [] (none, none, none) ⟨by rw [List.length_zipIdx]; simp [szL], fun b hb => by cases hb⟩
  rw [c_read_lock_1, me_for_s, ev_sFor, it, Out.bind_ok]
  unfold readB
  cases e : foldS rdStep (rowsT a).zipIdx [] with
  | inl s =>
    rw [e] at k
    obtain ⟨⟨k1, k2⟩, x, k3⟩ := k
    exact ⟨⟨by simp at k1; omega, k2⟩, x, k3⟩
  | inr j =>
    rw [e] at k
    obtain ⟨s, x, k3⟩ := k
    exact ⟨s, x, k3⟩
def rd2Enc (a : List Nat) (s : List Bt) (x : Option O × Option O × Option O) (done : List Bt) (y : Option O × Option O) : Env :=
  [some (.val (.str (T a))), none, none, none, none, none, none, none, some (.val (.list ((rowsT a).map fun p => .str (T p)))), some (.val (.list (s.map bFD))), x.1, x.2.1, x.2.2, some (.lst (vals (done.map bD))), y.1, y.2, none, none, none, none]
theorem rd_loop2 (n : Nat) (a : List Nat) (s : List Bt) (x : Option O × Option O × Option O) (hs : szL s ≤ 16000001) :
    ∃ y, (mean (denT tab n) c_read_lock_2).s [some (.val (.str (T a))), none, none, none, none, none, none, none, some (.val (.list ((rowsT a).map fun p => .str (T p)))), some (.lst (s.map bO)), x.1, x.2.1, x.2.2, some (.lst []), none, none, none, none, none, none] = .ok .nx (rd2Enc a s x s y) := by
  have it : (mean (denT tab n) (.seq (.var 9))).i [some (.val (.str (T a))), none, none, none, none, none, none, none, some (.val (.list ((rowsT a).map fun p => .str (T p)))), some (.lst (s.map bO)), x.1, x.2.1, x.2.2, some (.lst []), none, none, none, none, none, none] =
      .ok (s.map bFD) (rd2Enc a s x [] (none, none)) := by
    simp [rd2Enc, frzs_bO]
  have k := forGo_fold (σ := List Bt) (χ := Option O × Option O) (rd2Enc a s x) bFD (fun done b => done ++ [b]) (tg := tgF [] (.tup [14, 15])) (body := (mean (denT tab n) c_read_lock_2b).s) (fun rem done => done.length + rem.length ≤ s.length) s (fun done y b r hb hi => by
      rw [List.length_cons] at hi
      refine ⟨by simp; omega, rd2Enc a s x done (some (.val (.int b.many)), some (.val (.list (b.gaps.map gFD)))), (some (.val (.int b.many)), some (.val (.list (b.gaps.map gFD)))), rfl, .inl ?_⟩
      have hsz : szB b ≤ szL s := le_sum szB hb
      have hgl := len_szB b
      have hlen := len_szL s
      have c3 : ∀ o13, (mean (denT tab n) c_read_lock_3).o [some (.val (.str (T a))), none, none, none, none, none, none, none, some (.val (.list ((rowsT a).map fun p => .str (T p)))), some (.val (.list (s.map bFD))), x.1, x.2.1, x.2.2, o13, some (.val (.int b.many)), some (.val (.list (b.gaps.map gFD))), none, none, none, none] =
          .ok (.lst (vals (b.gaps.map gD))) [some (.val (.str (T a))), none, none, none, none, none, none, none, some (.val (.list ((rowsT a).map fun p => .str (T p)))), some (.val (.list (s.map bFD))), x.1, x.2.1, x.2.2, o13, some (.val (.int b.many)), some (.val (.list (b.gaps.map gFD))), none, none, none, none] := fun o13 => by
        rw [c_read_lock_3, me_lc_o]
        refine mLc_pure gFD gD b.gaps ?_ rfl rfl rfl rfl (by omega) fun g hg => ⟨_, rfl, rfl, rfl, ?_⟩
        · simp
        · simp [c_read_lock_3e, gD]
      have hd : done.length < 16777216 := by omega
      have e2 : bD b = .tuple [.int b.many, .tuple (b.gaps.map gD)] := rfl
      unfold rd2Enc
      generalize b.gaps.map gD = ds at *
      generalize b.gaps.map gFD = ds2 at *
      simp [c_read_lock_2b, c3, hd, e2]) [] (none, none) (by simp)
  obtain ⟨_, y, k⟩ := k
  refine ⟨y, ?_⟩
  rw [c_read_lock_2, me_for_s, ev_sFor, it, Out.bind_ok, k]
  have : ∀ (l d : List Bt), l.foldl (fun done b => done ++ [b]) d = d ++ l := fun l => by
    induction l with
    | nil => intro d; simp
    | cons b l ih => intro d; rw [List.foldl_cons, ih]; simp
  rw [this]
  rfl
def readO (a : List Nat) : FOut := match readB a with
  | .inl s => if isNn (faultD s) then .ok (.val (lD s)) [some (.val (.str (T a)))] else .exc ⟨"NoText", some (.int ((rowsT a).length : Int))⟩ [some (.val (.str (T a)))]
  | .inr k => .exc ⟨"NoText", some (.int (k : Int))⟩ [some (.val (.str (T a)))]
theorem den_read_lock (HW : HasW tab) (HT : HasT tab) (HR : HasR tab) (n : Nat) (a : List Nat) (ha : a.length ≤ 16000000) (hk : ∀ s, readB a = .inl s → 1 ≤ s.length → s.length ≤ 60 → firstBad s = .inl () → WideOk s (downL s.length) (none, [])) :
    denT tab (n + 8) "read_lock" [.val (.str (T a))] = readO a := by
  rw [denT_at HR.read_lock _ _ rfl]
  have e1 := den_rows_of HT (n + 6) a ha
  have l1 := rd_loop HT HR (n + 2) a ha
  unfold readO
  cases q : readB a with
  | inr k =>
    rw [q] at l1
    obtain ⟨s, x, l1⟩ := l1
    generalize (rowsT a).map (fun p => PyData.str (T p)) = rows at *
    simp [f_read_lock, c_read_lock, e1, l1, rdEnc]
  | inl s =>
    rw [q] at l1
    obtain ⟨⟨k1, k2⟩, x, l1⟩ := l1
    have hs := len_szL s
    obtain ⟨y, l2⟩ := rd_loop2 (tab := tab) (n + 7) a s x k1
    have e2 := den_is_lock HW HR.is_lock n s (by omega) (fit_of_sz (by omega) k2) (hk s q)
    have e4 : PyData.tuple (s.map bD) = lD s := rfl
    have e5 : ((rowsT a).map fun p => PyData.str (T p)).length = (rowsT a).length := List.length_map ..
    unfold rd2Enc at l2
    unfold rdEnc at l1
    generalize (rowsT a).map (fun p => PyData.str (T p)) = rows at *
    generalize s.map bFD = ds at *
    generalize s.map bO = os at *
    cases q2 : isNn (faultD s) with
    | true =>
      rw [q2] at e2
      simp [f_read_lock, c_read_lock, e1, l1, l2, e4, e2, q2]
    | false =>
      rw [q2] at e2
      simp [f_read_lock, c_read_lock, e1, l1, l2, e4, e2, e5, q2]
end
end MP

set_option Elab.async false
set_option linter.all false
set_option maxRecDepth 100000
set_option maxHeartbeats 4000000
namespace MP
open PySem PySem.Spec PyProof.Rows L2
def c__law_show_word_1e : C := (.ifO (.cmp .Is (.var 8) (.cst PyData.none)) (.cst (PyData.str "-")) (.bi .str (.cons (.var 8) .nil)))
def c__law_show_word_1 : C := (.lc (.seq (.var 0)) [8] (.name 8) .yes c__law_show_word_1e)
def c__law_show_word : C := (.seqS (.ifS (.cmp .Eq (.var 0) (.tup .nil)) (.seqS (.ret (.cst (PyData.str "."))) .skip) .skip) (.seqS (.ret (.join (.cst (PyData.str ",")) c__law_show_word_1)) .skip))
def f__law_show_word : FE := { name := "_law_show_word", ps := ["_law_word"], df := [], N := ["_law_word", "0", "1", "2", "3", "4", "5", "6", "_law_place"], code := c__law_show_word }
def c__law_show_lock_3e : C := (.bin .Add (.cst (PyData.str "way ")) (.call "_law_show_word" 1 (.cons (.argN 15) .nil) []))
def c__law_show_lock_3 : C := (.lc (.seq (.var 14)) [15] (.name 15) .yes c__law_show_lock_3e)
def c__law_show_lock_2b : C := (.seqS (.app 8 [] (.fr (.bin .Add (.cst (PyData.str "gap ")) (.join (.cst (PyData.str " ")) (.lst (.cons (.bi .str (.cons (.var 11) .nil)) (.cons (.bi .str (.cons (.var 12) .nil)) (.cons (.bi .str (.cons (.var 13) .nil)) .nil)))))))) (.seqS (.ext 8 c__law_show_lock_3) .skip))
def c__law_show_lock_2 : C := (.for (.seq (.var 10)) (.tup [11, 12, 13, 14]) c__law_show_lock_2b)
def c__law_show_lock_1b : C := (.seqS (.app 8 [] (.fr (.bin .Add (.cst (PyData.str "bolt ")) (.bi .str (.cons (.var 9) .nil))))) (.seqS c__law_show_lock_2 .skip))
def c__law_show_lock_1 : C := (.for (.seq (.var 0)) (.tup [9, 10]) c__law_show_lock_1b)
def c__law_show_lock : C := (.seqS (.set 8 (.lst .nil)) (.seqS c__law_show_lock_1 (.seqS (.ret (.join (.cst (PyData.str "\n")) (.var 8))) .skip)))
def f__law_show_lock : FE := { name := "_law_show_lock", ps := ["_law_lock_here"], df := [], N := ["_law_lock_here", "0", "1", "2", "3", "4", "5", "6", "_law_rows", "_law_many", "_law_gaps_here", "_law_here", "_law_there", "_law_price", "_law_ways", "_law_way"], code := c__law_show_lock }
def nI (i : Int) : List Nat := nT i.toNat
def oW (w : List Int) : List (Option Nat) := w.map fun i => some i.toNat
def rowB (b : Bt) : List Nat := tBolt ++ 32 :: nI b.many
def rowG (g : Gp) : List Nat := tGap ++ 32 :: (nI g.here ++ 32 :: (nI g.there ++ 32 :: nI g.price))
def rowW (w : List Int) : List Nat := tWay ++ 32 :: showW (oW w)
def rowsG (g : Gp) : List (List Nat) := rowG g :: g.ways.map rowW
def rowsB (b : Bt) : List (List Nat) := rowB b :: b.gaps.flatMap rowsG
def rowsL (l : List Bt) : List (List Nat) := l.flatMap rowsB
def showL (l : List Bt) : List Nat := joinT 10 (rowsL l)
/-- numbers small, not many -/
def NiceW (w : List Int) : Prop := w.length ≤ 60 ∧ ∀ i ∈ w, 0 ≤ i ∧ i < 10
def NiceG (g : Gp) : Prop := (0 ≤ g.here ∧ g.here < 10) ∧ (0 ≤ g.there ∧ g.there < 10) ∧ (0 ≤ g.price ∧ g.price < 10000000) ∧ ∀ w ∈ g.ways, NiceW w
def NiceB (b : Bt) : Prop := (0 ≤ b.many ∧ b.many < 10) ∧ b.gaps.length ≤ 12 ∧ (b.gaps.map fun g => g.ways.length).sum ≤ 8 ∧ ∀ g ∈ b.gaps, NiceG g
def Nice (l : List Bt) : Prop := l.length ≤ 60 ∧ ∀ b ∈ l, NiceB b
theorem nT_len {n k : Nat} (hk : 0 < k) (h : n < 10 ^ k) : (nT n).length ≤ k := TL.numL_len hk h
theorem nI_len {i : Int} {k : Nat} (hk : 0 < k) (h0 : 0 ≤ i) (h : i < 10 ^ k) : (nI i).length ≤ k := by
  refine nT_len hk ?_
  have : (i.toNat : Int) < ((10 ^ k : Nat) : Int) := by
    rw [Int.toNat_of_nonneg h0]; simpa using h
  omega
theorem joinT_len (c : Nat) : ∀ l : List (List Nat), (joinT c l).length ≤ (l.map (·.length)).sum + l.length
  | [] => Nat.zero_le _
  | [x] => by show x.length ≤ _; simp
  | x :: y :: r => by
    have ih := joinT_len c (y :: r)
    rw [show joinT c (x :: y :: r) = x ++ ([c] ++ joinT c (y :: r)) from rfl]
    simp only [List.length_append, List.length_singleton, List.map_cons, List.sum_cons, List.length_cons, List.length_nil] at ih ⊢
    omega
theorem toNat_cast {i : Int} (h : 0 ≤ i) : ((i.toNat : Nat) : Int) = i := Int.toNat_of_nonneg h
theorem toNat_small {i : Int} (h0 : 0 ≤ i) (h : i < 10000000) : i.toNat < 10 ^ 400 := by
  have : i.toNat < 10000000 := by omega
  exact Nat.lt_trans this (by decide +kernel)
theorem fmt_int {i : Int} (h0 : 0 ≤ i) (h : i < 10000000) : fmtR (.int i) = some (T (nI i)) := by
  have := fmt_nat (toNat_small h0 h)
  rwa [toNat_cast h0] at this
theorem str_int {i : Int} (h0 : 0 ≤ i) (h : i < 10000000) : strR [.int i] = some (.val (.str (T (nI i)))) := by
  have := str_nat (toNat_small h0 h)
  rwa [toNat_cast h0] at this
theorem oD_wD {w : List Int} (h : NiceW w) : oD (oW w) = wD w := by
  unfold oD oW wD
  rw [List.map_map]
  congr 1
  refine List.map_congr_left fun i hi => ?_
  show PyData.int _ = PyData.int _
  rw [toNat_cast (h.2 i hi).1]
theorem sum_const {α : Type} (f : α → Nat) (k : Nat) : ∀ {l : List α}, (∀ x ∈ l, f x ≤ k) → (l.map f).sum ≤ l.length * k
  | [], _ => Nat.zero_le _
  | y :: l, h => by
    rw [List.map_cons, List.sum_cons, List.length_cons, Nat.add_mul]
    have := sum_const f k (l := l) fun x hx => h x (List.mem_cons_of_mem _ hx)
    have := h y List.mem_cons_self
    omega
theorem showP_len {i : Int} (h : 0 ≤ i ∧ i < 10) : (showP (some i.toNat)).length ≤ 1 := nT_len (k := 1) (by omega) (by omega)
theorem oW_sum {w : List Int} (h : NiceW w) : (((oW w).map showP).map (·.length)).sum ≤ 60 := by
  unfold oW
  rw [List.map_map, List.map_map]
  have := sum_const (fun i : Int => (showP (some i.toNat)).length) 1 (l := w) fun i hi => showP_len (h.2 i hi)
  have e : (w.map (((fun x : List Nat => x.length) ∘ showP) ∘ fun i => some i.toNat)) = w.map fun i : Int => (showP (some i.toNat)).length := rfl
  rw [e]
  have := h.1
  omega
theorem fitW {w : List Int} (h : NiceW w) : FitW (oW w) := by
  refine ⟨fun k hk => ?_, ?_⟩
  · obtain ⟨i, hi, e⟩ := List.mem_map.mp hk
    have e : i.toNat = k := Option.some.inj e
    subst e
    exact toNat_small (h.2 i hi).1 (by have := (h.2 i hi).2; omega)
  · have h1 := oW_sum h
    have h2 : (oW w).length = w.length := List.length_map ..
    have := h.1
    omega
theorem showW_len {w : List Int} (h : NiceW w) : (showW (oW w)).length ≤ 120 := by
  unfold showW
  split
  · decide
  · have h1 := oW_sum h
    have h2 := joinT_len 44 ((oW w).map showP)
    have h3 : ((oW w).map showP).length = w.length := by rw [List.length_map]; exact List.length_map ..
    have := h.1
    omega
theorem tlens : tBolt.length = 4 ∧ tGap.length = 3 ∧ tWay.length = 3 := ⟨rfl, rfl, rfl⟩
theorem rowB_len {b : Bt} (h : NiceB b) : (rowB b).length ≤ 130 := by
  have h1 : (nI b.many).length ≤ 1 := nI_len (by omega) h.1.1 (by have := h.1.2; omega)
  unfold rowB; simp [tlens]; omega
theorem rowG_len {g : Gp} (h : NiceG g) : (rowG g).length ≤ 130 := by
  have h1 : (nI g.here).length ≤ 1 := nI_len (by omega) h.1.1 (by have := h.1.2; omega)
  have h2 : (nI g.there).length ≤ 1 := nI_len (by omega) h.2.1.1 (by have := h.2.1.2; omega)
  have h3 : (nI g.price).length ≤ 7 := nI_len (by omega) h.2.2.1.1 (by have := h.2.2.1.2; omega)
  unfold rowG; simp [tlens]; omega
theorem rowW_len {w : List Int} (h : NiceW w) : (rowW w).length ≤ 130 := by
  have h1 := showW_len h
  unfold rowW; simp [tlens]; omega
theorem rows_in {l : List Bt} (h : Nice l) : ∀ r ∈ rowsL l, r.length ≤ 130 := fun r hr => by
  obtain ⟨b, hb, hr⟩ := List.mem_flatMap.mp hr
  have hb' := h.2 b hb
  rcases List.mem_cons.mp hr with rfl | hr
  · exact rowB_len hb'
  · obtain ⟨g, hg, hr⟩ := List.mem_flatMap.mp hr
    have hg' := hb'.2.2.2 g hg
    rcases List.mem_cons.mp hr with rfl | hr
    · exact rowG_len hg'
    · obtain ⟨w, hw, rfl⟩ := List.mem_map.mp hr
      exact rowW_len (hg'.2.2.2 w hw)
theorem rowsB_len {b : Bt} (h : NiceB b) : (rowsB b).length ≤ 21 := by
  have e : (rowsB b).length = 1 + (b.gaps.map fun g => 1 + g.ways.length).sum := by
    unfold rowsB
    rw [List.length_cons, List.length_flatMap]
    have : (b.gaps.map fun g => (rowsG g).length) = b.gaps.map fun g => 1 + g.ways.length := List.map_congr_left fun g _ => by unfold rowsG; rw [List.length_cons, List.length_map]; omega
    rw [this]; omega
  have e2 : ∀ gs : List Gp, (gs.map fun g => 1 + g.ways.length).sum = gs.length + (gs.map fun g => g.ways.length).sum := fun gs => by
    induction gs with
    | nil => rfl
    | cons g gs ih => rw [List.map_cons, List.sum_cons, ih, List.map_cons, List.sum_cons, List.length_cons]; omega
  rw [e, e2]
  have := h.2.1
  have := h.2.2.1
  omega
theorem rowsL_len {l : List Bt} (h : Nice l) : (rowsL l).length ≤ 1260 := by
  unfold rowsL
  rw [List.length_flatMap]
  have := sum_const (fun b => (rowsB b).length) 21 (l := l) fun b hb => rowsB_len (h.2 b hb)
  have := h.1
  omega
theorem showL_fit {l : List Bt} (h : Nice l) : ((rowsL l).map (·.length)).sum + (rowsL l).length ≤ 170000 := by
  have h1 := sum_const (fun r : List Nat => r.length) 130 (l := rowsL l) (rows_in h)
  have h2 := rowsL_len h
  omega
theorem foldl_flat {α β : Type} (f : α → List β) : ∀ (l : List α) (d : List β), l.foldl (fun d b => d ++ f b) d = d ++ l.flatMap f
  | [], d => by simp
  | x :: l, d => by rw [List.foldl_cons, foldl_flat f l, List.flatMap_cons, List.append_assoc]
def strD (p : List Nat) : D := .str (T p)
section
variable {tab : List FE}
theorem fs_bolt (den : Den) (e : Env) (i : Int) (h : e[9]? = some (some (.val (.int i)))) (h0 : 0 ≤ i) (h1 : i < 10000000) : (mean den c_show_lock_f1).o e = .ok (.val (strD (tBolt ++ 32 :: nI i))) e := by
  have l : (nI i).length ≤ 7 := nI_len (by omega) h0 (by omega)
  simp [c_show_lock_f1, h, fmt_int h0 h1, tlens, strD]
  omega
theorem fs_gap (den : Den) (e : Env) (g : Gp) (h : e[11]? = some (some (.val (.int g.here)))) (h2 : e[12]? = some (some (.val (.int g.there)))) (h3 : e[13]? = some (some (.val (.int g.price)))) (hg : NiceG g) : (mean den c_show_lock_f2).o e = .ok (.val (strD (rowG g))) e := by
  have l1 : (nI g.here).length ≤ 1 := nI_len (by omega) hg.1.1 (by have := hg.1.2; omega)
  have l2 : (nI g.there).length ≤ 1 := nI_len (by omega) hg.2.1.1 (by have := hg.2.1.2; omega)
  have l3 : (nI g.price).length ≤ 7 := nI_len (by omega) hg.2.2.1.1 (by have := hg.2.2.1.2; omega)
  have f1 := fmt_int hg.1.1 (by have := hg.1.2; omega)
  have f2 := fmt_int hg.2.1.1 (by have := hg.2.1.2; omega)
  have f3 := fmt_int hg.2.2.1.1 (by have := hg.2.2.1.2; omega)
  simp [c_show_lock_f2, h, h2, h3, f1, f2, f3, tlens, strD, rowG]
  rw [if_pos (by omega), if_pos (by omega), if_pos (by omega), if_pos (by omega), if_pos (by omega)]
theorem fs_way (HT : HasT tab) (n : Nat) (e : Env) (w : List Int) (h : e[15]? = some (some (.val (wD w)))) (hw : NiceW w) : (mean (denT tab (n + 1)) c_show_lock_f3).o e = .ok (.val (strD (rowW w))) e := by
  have l1 := showW_len hw
  have e1 := den_show_word HT n (oW w) (fitW hw)
  rw [oD_wD hw] at e1
  have f1 := fmt_T (a := showW (oW w)) (by omega)
  simp [c_show_lock_f3, h, e1, f1, tlens, strD, rowW]
  omega
end
def okv (d : D) : Option O := some (.val d)
abbrev Y4 := Option O × Option O × Option O × Option O
def shEnc (d : D) (done : List (List Nat)) (m g : Option O) (y : Y4) : Env := [some (.val d), none, none, none, none, none, none, none, some (.lst (vals (done.map strD))), m, g, y.1, y.2.1, y.2.2.1, y.2.2.2, none]
def gapY (g : Gp) : Y4 := (some (.val (.int g.here)), some (.val (.int g.there)), some (.val (.int g.price)), some (.val (.tuple (g.ways.map wD))))
section
variable {tab : List FE}
theorem sh_gap (HT : HasT tab) (n : Nat) (d : D) (done : List (List Nat)) (m gs : Option O) (g : Gp) (hg : NiceG g) (hl : done.length + (rowsG g).length ≤ 2000) :
    (mean (denT tab (n + 1)) c_show_lock_2b).s (shEnc d done m gs (gapY g)) = .ok .nx (shEnc d (done ++ rowsG g) m gs (gapY g)) := by
  have l1 : done.length + (1 + g.ways.length) ≤ 2000 := by unfold rowsG at hl; rw [List.length_cons, List.length_map] at hl; omega
  have f2 := fs_gap (denT tab (n + 1)) [some (.val d), none, none, none, none, none, none, none, none, m, gs, some (.val (.int g.here)), some (.val (.int g.there)), some (.val (.int g.price)), some (.val (.tuple (g.ways.map wD))), none] g rfl rfl rfl hg
  have c3 : ∀ o8, (mean (denT tab (n + 1)) c_show_lock_3).o [some (.val d), none, none, none, none, none, none, none, o8, m, gs, some (.val (.int g.here)), some (.val (.int g.there)), some (.val (.int g.price)), some (.val (.tuple (g.ways.map wD))), none] =
      .ok (.lst (vals (g.ways.map fun w => strD (rowW w)))) [some (.val d), none, none, none, none, none, none, none, o8, m, gs, some (.val (.int g.here)), some (.val (.int g.there)), some (.val (.int g.price)), some (.val (.tuple (g.ways.map wD))), none] := fun o8 => by
    rw [c_show_lock_3, me_lc_o]
    refine mLc_pure wD (fun w => strD (rowW w)) g.ways ?_ rfl rfl rfl rfl (by omega) fun w hw => ⟨_, rfl, rfl, rfl, ?_⟩
    · simp
    · have f3 := fs_way HT n [some (.val d), none, none, none, none, none, none, none, o8, m, gs, some (.val (.int g.here)), some (.val (.int g.there)), some (.val (.int g.price)), some (.val (.tuple (g.ways.map wD))), some (.val (wD w))] w rfl (hg.2.2.2 w hw)
      simp [c_show_lock_3e, f3]
  have e : ((done ++ rowsG g).map strD) = done.map strD ++ (strD (rowG g) :: g.ways.map fun w => strD (rowW w)) := by
    rw [List.map_append, rowsG, List.map_cons, List.map_map]; rfl
  have l2 : (done.map strD).length < 16777216 := by rw [List.length_map]; omega
  have l3 : (done.map strD).length + 1 + (g.ways.map fun w => strD (rowW w)).length ≤ 16777216 := by rw [List.length_map, List.length_map]; omega
  unfold shEnc gapY
  rw [e]
  generalize done.map strD = ds at *
  generalize (g.ways.map fun w => strD (rowW w)) = ds2 at *
  generalize PyData.tuple (g.ways.map wD) = W at *
  simp [c_show_lock_2b, f2, c3, l2]
  omega
theorem sh_bolt (HT : HasT tab) (n : Nat) (d : D) (done : List (List Nat)) (y : Y4) (b : Bt) (hb : NiceB b) (hl : done.length + (rowsB b).length ≤ 2000) :
    ∃ y', (mean (denT tab (n + 1)) c_show_lock_1b).s (shEnc d done (some (.val (.int b.many))) (some (.val (.tuple (b.gaps.map gD)))) y) = .ok .nx (shEnc d (done ++ rowsB b) (some (.val (.int b.many))) (some (.val (.tuple (b.gaps.map gD)))) y') := by
  have hl2 : done.length + 1 + (b.gaps.flatMap rowsG).length ≤ 2000 := by unfold rowsB at hl; rw [List.length_cons] at hl; omega
  have k := forGo_fold (σ := List (List Nat)) (χ := Y4) (fun done y => shEnc d done (some (.val (.int b.many))) (some (.val (.tuple (b.gaps.map gD)))) y) gD (fun done g => done ++ rowsG g) (tg := tgF [] (.tup [11, 12, 13, 14])) (body := (mean (denT tab (n + 1)) c_show_lock_2b).s)
    (fun rem done => done.length + (rem.flatMap rowsG).length ≤ 2000) b.gaps (fun done y g r hg hi => by
      rw [List.flatMap_cons, List.length_append] at hi
      refine ⟨by rw [List.length_append]; omega, _, gapY g, rfl, .inl (sh_gap HT n d done _ _ g (hb.2.2.2 g hg) (by omega))⟩) (done ++ [rowB b]) y (by rw [List.length_append, List.length_singleton]; omega)
  obtain ⟨_, y', k⟩ := k
  rw [foldl_flat, List.append_assoc] at k
  refine ⟨y', ?_⟩
  have f1 := fs_bolt (denT tab (n + 1)) [some (.val d), none, none, none, none, none, none, none, none, some (.val (.int b.many)), some (.val (.tuple (b.gaps.map gD))), y.1, y.2.1, y.2.2.1, y.2.2.2, none] b.many rfl hb.1.1 (by have := hb.1.2; omega)
  rw [show tBolt ++ 32 :: nI b.many = rowB b from rfl] at f1
  have l2 : (done.map strD).length < 16777216 := by rw [List.length_map]; omega
  have e : ((done ++ [rowB b]).map strD) = done.map strD ++ [strD (rowB b)] := by simp
  have e2 : done ++ ([rowB b] ++ b.gaps.flatMap rowsG) = done ++ rowsB b := rfl
  rw [e2] at k
  have it : (mean (denT tab (n + 1)) c_show_lock_2).s [some (.val d), none, none, none, none, none, none, none, some (.lst (vals (done.map strD ++ [strD (rowB b)]))), some (.val (.int b.many)), some (.val (.tuple (b.gaps.map gD))), y.1, y.2.1, y.2.2.1, y.2.2.2, none] = .ok .nx (shEnc d (done ++ rowsB b) (some (.val (.int b.many))) (some (.val (.tuple (b.gaps.map gD)))) y') := by
    rw [← k, c_show_lock_2, me_for_s, ev_sFor, shEnc, e]
    simp
  generalize hK : shEnc d (done ++ rowsB b) (some (.val (.int b.many))) (some (.val (.tuple (b.gaps.map gD)))) y' = K at *
  unfold shEnc
  generalize done.map strD = ds at *
  generalize PyData.tuple (b.gaps.map gD) = G at *
  simp [c_show_lock_1b, f1, l2, it]
theorem sh_loop (HT : HasT tab) (n : Nat) (l : List Bt) (hl : Nice l) :
    ∃ m g y, (mean (denT tab (n + 1)) c_show_lock_1).s (shEnc (lD l) [] none none (none, none, none, none)) = .ok .nx (shEnc (lD l) (rowsL l) m g y) := by
  have k := forGo_fold (σ := List (List Nat)) (χ := Option O × Option O × Y4) (fun done x => shEnc (lD l) done x.1 x.2.1 x.2.2) bD (fun done b => done ++ rowsB b) (tg := tgF [] (.tup [9, 10])) (body := (mean (denT tab (n + 1)) c_show_lock_1b).s)
    (fun rem done => done.length + (rem.flatMap rowsB).length ≤ 2000) l (fun done x b r hb hi => by
      rw [List.flatMap_cons, List.length_append] at hi
      obtain ⟨y', h⟩ := sh_bolt HT n (lD l) done x.2.2 b (hl.2 b hb) (by omega)
      exact ⟨by rw [List.length_append]; omega, _, (some (.val (.int b.many)), some (.val (.tuple (b.gaps.map gD))), y'), rfl, .inl h⟩) [] (none, none, none, none, none, none) (by have := rowsL_len hl; unfold rowsL at this; simp at this ⊢; omega)
  obtain ⟨_, x, k⟩ := k
  rw [foldl_flat, List.nil_append] at k
  refine ⟨x.1, x.2.1, x.2.2, ?_⟩
  rw [show rowsL l = l.flatMap rowsB from rfl, ← k, c_show_lock_1, me_for_s, ev_sFor, shEnc]
  simp [lD]
theorem den_show_lock (HT : HasT tab) (H1 : At tab "show_lock" f_show_lock) (H2 : At tab "must_be_lock" f_must_be_lock) (n : Nat) (l : List Bt) (hl : Nice l) (h : denT tab (n + 1) "fault_of" [.val (lD l)] = .ok (.val .none) [some (.val (lD l))]) :
    denT tab (n + 3) "show_lock" [.val (lD l)] = .ok (.val (strD (showL l))) [some (.val (lD l))] := by
  rw [denT_at H1 _ _ rfl]
  have e1 := den_must_be_lock H2 (n + 1) (lD l) .none h
  rw [isNn_none, if_pos rfl] at e1
  obtain ⟨m, g, y, k⟩ := sh_loop HT (n + 1) l hl
  have e2 := joinD_T 10 (rowsL l) (by have := showL_fit hl; omega)
  rw [show ((rowsL l).map fun p => PyData.str (T p)) = (rowsL l).map strD from rfl] at e2
  unfold shEnc at k
  rw [List.map_nil, vals_nil] at k
  unfold showL
  generalize (rowsL l).map strD = ds at *
  generalize lD l = L at *
  simp [f_show_lock, c_show_lock, e1, k, e2, strD]
/-- what is none is refused with its fault -/
theorem den_show_bad (H1 : At tab "show_lock" f_show_lock) (H2 : At tab "must_be_lock" f_must_be_lock) (n : Nat) (d f : D) (hf : isNn f = false) (h : denT tab n "fault_of" [.val d] = .ok (.val f) [some (.val d)]) :
    denT tab (n + 2) "show_lock" [.val d] = .exc ⟨"NoLock", some f⟩ [some (.val d)] := by
  rw [denT_at H1 _ _ rfl]
  have e1 := den_must_be_lock H2 n d f h
  rw [hf] at e1
  simp [f_show_lock, c_show_lock, e1]
end
structure HasLS (tab : List FE) : Prop where
  show_word : At tab "_law_show_word" f__law_show_word
  show_lock : At tab "_law_show_lock" f__law_show_lock
section
variable {tab : List FE}
theorem w_law_show_word (n : Nat) (w : List (Option Nat)) (h : FitW w) :
    (mean (denT tab n) c__law_show_word_1).o [some (.val (oD w)), none, none, none, none, none, none, none, none] = .ok (.lst (vals ((w.map showP).map fun p => .str (T p)))) [some (.val (oD w)), none, none, none, none, none, none, none, none] := by
  rw [c__law_show_word_1, me_lc_o, List.map_map]
  refine mLc_pure natD (fun o => .str (T (showP o))) w ?_ rfl rfl rfl rfl (by have := h.2; omega) fun o ho => ⟨_, rfl, rfl, rfl, ?_⟩
  · simp [oD]
  · cases o with
    | none => simp [c__law_show_word_1e, showP]
    | some k =>
      have e := str_nat (h.1 k ho)
      simp [c__law_show_word_1e, showP, e]
theorem den_law_show_word (H : At tab "_law_show_word" f__law_show_word) (n : Nat) (w : List (Option Nat)) (h : FitW w) :
    denT tab (n + 1) "_law_show_word" [.val (oD w)] = .ok (.val (.str (T (showW w)))) [some (.val (oD w))] := by
  rw [denT_at H _ _ rfl]
  have h1 := w_law_show_word (tab := tab) n w h
  have h2 := joinD_T 44 (w.map showP) (by have := h.2; rw [List.length_map]; omega)
  have h3 : eqR (oD w) (.tuple []) = some (decide (w = [])) := by
    show eqR (.tuple _) _ = _
    rw [eq_nil_tup (fun d hd => by obtain ⟨o, _, rfl⟩ := List.mem_map.mp hd; exact atom_natD o)]
    cases w <;> simp
  unfold showW
  generalize (w.map showP).map (fun p => PyData.str (T p)) = ds at *
  by_cases q : w = []
  · rw [if_pos q]
    rw [decide_eq_true q] at h3
    simp [f__law_show_word, c__law_show_word, h3]
  · rw [if_neg q]
    rw [decide_eq_false q] at h3
    simp [f__law_show_word, c__law_show_word, h3, h1, h2]
theorem law_sh_gap (HL : HasLS tab) (n : Nat) (d : D) (done : List (List Nat)) (m gs : Option O) (g : Gp) (hg : NiceG g) (hl : done.length + (rowsG g).length ≤ 2000) :
    (mean (denT tab (n + 1)) c__law_show_lock_2b).s (shEnc d done m gs (gapY g)) = .ok .nx (shEnc d (done ++ rowsG g) m gs (gapY g)) := by
  have l1 : done.length + (1 + g.ways.length) ≤ 2000 := by unfold rowsG at hl; rw [List.length_cons, List.length_map] at hl; omega
  have s1 := str_int hg.1.1 (by have := hg.1.2; omega)
  have s2 := str_int hg.2.1.1 (by have := hg.2.1.2; omega)
  have s3 := str_int hg.2.2.1.1 (by have := hg.2.2.1.2; omega)
  have k1 : (nI g.here).length ≤ 1 := nI_len (by omega) hg.1.1 (by have := hg.1.2; omega)
  have k2 : (nI g.there).length ≤ 1 := nI_len (by omega) hg.2.1.1 (by have := hg.2.1.2; omega)
  have k3 : (nI g.price).length ≤ 7 := nI_len (by omega) hg.2.2.1.1 (by have := hg.2.2.1.2; omega)
  have j1 := joinD_T 32 [nI g.here, nI g.there, nI g.price] (by simp; omega)
  have j2 : joinT 32 [nI g.here, nI g.there, nI g.price] = nI g.here ++ 32 :: (nI g.there ++ 32 :: nI g.price) := rfl
  rw [j2] at j1
  have j3 := bin_str (T (tGap ++ [32])) (T (nI g.here ++ 32 :: (nI g.there ++ 32 :: nI g.price))) (by simp [tlens]; omega)
  have j4 : T (tGap ++ [32]) ++ T (nI g.here ++ 32 :: (nI g.there ++ 32 :: nI g.price)) = T (rowG g) := by simp [rowG]
  rw [j4] at j3
  have c3 : ∀ o8, (mean (denT tab (n + 1)) c__law_show_lock_3).o [some (.val d), none, none, none, none, none, none, none, o8, m, gs, some (.val (.int g.here)), some (.val (.int g.there)), some (.val (.int g.price)), some (.val (.tuple (g.ways.map wD))), none] =
      .ok (.lst (vals (g.ways.map fun w => strD (rowW w)))) [some (.val d), none, none, none, none, none, none, none, o8, m, gs, some (.val (.int g.here)), some (.val (.int g.there)), some (.val (.int g.price)), some (.val (.tuple (g.ways.map wD))), none] := fun o8 => by
    rw [c__law_show_lock_3, me_lc_o]
    refine mLc_pure wD (fun w => strD (rowW w)) g.ways ?_ rfl rfl rfl rfl (by omega) fun w hw => ⟨_, rfl, rfl, rfl, ?_⟩
    · simp
    · have hw' := hg.2.2.2 w hw
      have e1 := den_law_show_word HL.show_word n (oW w) (fitW hw')
      rw [oD_wD hw'] at e1
      have l1 := showW_len hw'
      have j5 := bin_str (T (tWay ++ [32])) (T (showW (oW w))) (by simp [tlens]; omega)
      have j6 : T (tWay ++ [32]) ++ T (showW (oW w)) = T (rowW w) := by simp [rowW]
      rw [j6] at j5
      simp [c__law_show_lock_3e, e1, j5, strD]
  have e : ((done ++ rowsG g).map strD) = done.map strD ++ (strD (rowG g) :: g.ways.map fun w => strD (rowW w)) := by
    rw [List.map_append, rowsG, List.map_cons, List.map_map]; rfl
  have l2 : (done.map strD).length < 16777216 := by rw [List.length_map]; omega
  have l3 : (done.map strD).length + 1 + (g.ways.map fun w => strD (rowW w)).length ≤ 16777216 := by rw [List.length_map, List.length_map]; omega
  unfold shEnc gapY
  rw [e]
  generalize done.map strD = ds at *
  generalize (g.ways.map fun w => strD (rowW w)) = ds2 at *
  generalize PyData.tuple (g.ways.map wD) = W at *
  simp [c__law_show_lock_2b, s1, s2, s3, j1, j3, c3, l2, strD]
  simp at j1
  simp [j1, j3, l2, c3]
  omega
end
section
variable {tab : List FE}
theorem law_sh_bolt (HL : HasLS tab) (n : Nat) (d : D) (done : List (List Nat)) (y : Y4) (b : Bt) (hb : NiceB b) (hl : done.length + (rowsB b).length ≤ 2000) :
    ∃ y', (mean (denT tab (n + 1)) c__law_show_lock_1b).s (shEnc d done (some (.val (.int b.many))) (some (.val (.tuple (b.gaps.map gD)))) y) = .ok .nx (shEnc d (done ++ rowsB b) (some (.val (.int b.many))) (some (.val (.tuple (b.gaps.map gD)))) y') := by
  have hl2 : done.length + 1 + (b.gaps.flatMap rowsG).length ≤ 2000 := by unfold rowsB at hl; rw [List.length_cons] at hl; omega
  have k := forGo_fold (σ := List (List Nat)) (χ := Y4) (fun done y => shEnc d done (some (.val (.int b.many))) (some (.val (.tuple (b.gaps.map gD)))) y) gD (fun done g => done ++ rowsG g) (tg := tgF [] (.tup [11, 12, 13, 14])) (body := (mean (denT tab (n + 1)) c__law_show_lock_2b).s)
    (fun rem done => done.length + (rem.flatMap rowsG).length ≤ 2000) b.gaps (fun done y g r hg hi => by
      rw [List.flatMap_cons, List.length_append] at hi
      refine ⟨by rw [List.length_append]; omega, _, gapY g, rfl, .inl (law_sh_gap HL n d done _ _ g (hb.2.2.2 g hg) (by omega))⟩) (done ++ [rowB b]) y (by rw [List.length_append, List.length_singleton]; omega)
  obtain ⟨_, y', k⟩ := k
  rw [foldl_flat, List.append_assoc] at k
  refine ⟨y', ?_⟩
  have s1 := str_int hb.1.1 (by have := hb.1.2; omega)
  have k1 : (nI b.many).length ≤ 7 := nI_len (by omega) hb.1.1 (by have := hb.1.2; omega)
  have f1 := bin_str (T (tBolt ++ [32])) (T (nI b.many)) (by simp [tlens]; omega)
  have f2 : T (tBolt ++ [32]) ++ T (nI b.many) = T (rowB b) := by simp [rowB]
  rw [f2] at f1
  have l2 : (done.map strD).length < 16777216 := by rw [List.length_map]; omega
  have e : ((done ++ [rowB b]).map strD) = done.map strD ++ [strD (rowB b)] := by simp
  have e2 : done ++ ([rowB b] ++ b.gaps.flatMap rowsG) = done ++ rowsB b := rfl
  rw [e2] at k
  have it : (mean (denT tab (n + 1)) c__law_show_lock_2).s [some (.val d), none, none, none, none, none, none, none, some (.lst (vals (done.map strD ++ [strD (rowB b)]))), some (.val (.int b.many)), some (.val (.tuple (b.gaps.map gD))), y.1, y.2.1, y.2.2.1, y.2.2.2, none] = .ok .nx (shEnc d (done ++ rowsB b) (some (.val (.int b.many))) (some (.val (.tuple (b.gaps.map gD)))) y') := by
    rw [← k, c__law_show_lock_2, me_for_s, ev_sFor, shEnc, e]
    simp
  generalize hK : shEnc d (done ++ rowsB b) (some (.val (.int b.many))) (some (.val (.tuple (b.gaps.map gD)))) y' = K at *
  unfold shEnc
  generalize done.map strD = ds at *
  generalize PyData.tuple (b.gaps.map gD) = G at *
  unfold strD at it
  simp [c__law_show_lock_1b, s1, f1, l2, it]
theorem law_sh_loop (HL : HasLS tab) (n : Nat) (l : List Bt) (hl : Nice l) :
    ∃ m g y, (mean (denT tab (n + 1)) c__law_show_lock_1).s (shEnc (lD l) [] none none (none, none, none, none)) = .ok .nx (shEnc (lD l) (rowsL l) m g y) := by
  have k := forGo_fold (σ := List (List Nat)) (χ := Option O × Option O × Y4) (fun done x => shEnc (lD l) done x.1 x.2.1 x.2.2) bD (fun done b => done ++ rowsB b) (tg := tgF [] (.tup [9, 10])) (body := (mean (denT tab (n + 1)) c__law_show_lock_1b).s)
    (fun rem done => done.length + (rem.flatMap rowsB).length ≤ 2000) l (fun done x b r hb hi => by
      rw [List.flatMap_cons, List.length_append] at hi
      obtain ⟨y', h⟩ := law_sh_bolt HL n (lD l) done x.2.2 b (hl.2 b hb) (by omega)
      exact ⟨by rw [List.length_append]; omega, _, (some (.val (.int b.many)), some (.val (.tuple (b.gaps.map gD))), y'), rfl, .inl h⟩) [] (none, none, none, none, none, none) (by have := rowsL_len hl; unfold rowsL at this; simp at this ⊢; omega)
  obtain ⟨_, x, k⟩ := k
  rw [foldl_flat, List.nil_append] at k
  refine ⟨x.1, x.2.1, x.2.2, ?_⟩
  rw [show rowsL l = l.flatMap rowsB from rfl, ← k, c__law_show_lock_1, me_for_s, ev_sFor, shEnc]
  simp [lD]
theorem den_law_show_lock (HL : HasLS tab) (n : Nat) (l : List Bt) (hl : Nice l) :
    denT tab (n + 2) "_law_show_lock" [.val (lD l)] = .ok (.val (strD (showL l))) [some (.val (lD l))] := by
  rw [denT_at HL.show_lock _ _ rfl]
  obtain ⟨m, g, y, k⟩ := law_sh_loop HL n l hl
  have e2 := joinD_T 10 (rowsL l) (by have := showL_fit hl; omega)
  rw [show ((rowsL l).map fun p => PyData.str (T p)) = (rowsL l).map strD from rfl] at e2
  unfold shEnc at k
  rw [List.map_nil, vals_nil] at k
  unfold showL
  generalize (rowsL l).map strD = ds at *
  generalize lD l = L at *
  simp [f__law_show_lock, c__law_show_lock, k, e2, strD]
end
end MP

set_option Elab.async false
set_option linter.all false
set_option maxRecDepth 100000
set_option maxHeartbeats 4000000
namespace MP
open PySem PySem.Spec PyProof.Rows L2
theorem nT_dig (n : Nat) : ∀ c ∈ nT n, 48 ≤ c ∧ c ≤ 57 := TL.numL_digits n
theorem nT_head : ∀ (n : Nat), n ≠ 0 → (nT n).head? ≠ some 48 := by
  intro n
  induction n using Nat.strongRecOn with
  | ind n ih =>
    intro hn
    by_cases h : n < 10
    · rw [show nT n = [48 + n] from TL.numL_lt h]
      simp; omega
    · rw [show nT n = nT (n / 10) ++ [48 + n % 10] from TL.numL_step (by omega)]
      have := ih (n / 10) (by omega) (by omega)
      have ne : nT (n / 10) ≠ [] := TL.numL_ne _
      obtain ⟨c, r, e⟩ := List.exists_cons_of_ne_nil ne
      rw [e] at this ⊢
      simpa using this
theorem nT_zero : nT 0 = [48] := TL.numL_lt (by omega)
theorem numIn_nT {n : Nat} (h : n < 10 ^ 300) : numIn (nT n) = some n := by
  unfold numIn
  have h1 : 1 ≤ (nT n).length := by
    have ne : nT n ≠ [] := TL.numL_ne _
    exact List.length_pos_iff.mpr ne
  have h2 : (nT n).length ≤ 300 := nT_len (by omega) h
  have h3 : (nT n).all isDg = true := by
    rw [List.all_eq_true]
    intro c hc
    have := nT_dig n c hc
    unfold isDg
    rw [decide_eq_true this.1, decide_eq_true this.2]; rfl
  rw [if_pos ⟨⟨h1, h2⟩, h3⟩]
  have h4 : ¬ ((nT n).head? = some 48 ∧ nT n ≠ [48]) := by
    rintro ⟨a, b⟩
    by_cases q : n = 0
    · subst q; exact b nT_zero
    · exact nT_head n q a
  rw [if_neg h4]
  exact congrArg some (TL.numL_val n)
theorem splt_one {c : Nat} {p : List Nat} (h : c ∉ p) : splt c p = [p] := by
  have := TL.spl_last1 (s := c) (S := []) (acc := []) h
  exact this
theorem splt_cons {c : Nat} {p q : List Nat} (h : c ∉ p) : splt c (p ++ c :: q) = p :: splt c q := by
  have := TL.spl_part1 (s := c) (S := []) (acc := []) (rest := q) h
  exact this
theorem splt_join {c : Nat} {ps : List (List Nat)} (hne : ps ≠ []) (h : ∀ p ∈ ps, c ∉ p) : splt c (joinT c ps) = ps := TL.spl_join (s := c) (S := []) hne h
theorem not_nT {c n : Nat} (h : c < 48 ∨ 57 < c) : c ∉ nT n := TL.numL_free h
theorem not_nI {c : Nat} {i : Int} (h : c < 48 ∨ 57 < c) : c ∉ nI i := not_nT h
theorem small300 {i : Int} (h0 : 0 ≤ i) (h : i < 10000000) : i.toNat < 10 ^ 300 := by
  have : i.toNat < 10000000 := by omega
  exact Nat.lt_trans this (by decide +kernel)
theorem numIn_nI {i : Int} (h0 : 0 ≤ i) (h : i < 10000000) : numIn (nI i) = some i.toNat := numIn_nT (small300 h0 h)
theorem allS_some {α β : Type} (f : α → β) : ∀ l : List α, allS (l.map fun a => some (f a)) = some (l.map f)
  | [] => rfl
  | a :: l => by
    show (allS (l.map fun a => some (f a))).map _ = _
    rw [allS_some f l]; rfl
theorem mem_joinT {c x : Nat} : ∀ {ps : List (List Nat)}, x ∈ joinT c ps → x = c ∨ ∃ p ∈ ps, x ∈ p
  | [], h => by cases h
  | [p], h => .inr ⟨p, List.mem_singleton.mpr rfl, h⟩
  | p :: q :: r, h => by
    rcases List.mem_append.mp (show x ∈ p ++ ([c] ++ joinT c (q :: r)) from h) with h | h
    · exact .inr ⟨p, List.mem_cons_self, h⟩
    · rcases List.mem_append.mp h with h | h
      · exact .inl (List.mem_singleton.mp h)
      · rcases mem_joinT h with h | ⟨z, hz, h⟩
        · exact .inl h
        · exact .inr ⟨z, List.mem_cons_of_mem _ hz, h⟩
theorem oW_show (w : List Int) : (oW w).map showP = w.map nI := by
  unfold oW; rw [List.map_map]; rfl
theorem wordC_show {w : List Int} (h : NiceW w) : wordC (showW (oW w)) = some (w.map Int.toNat) := by
  unfold showW
  by_cases q : w = []
  · subst q; rfl
  · have q2 : ¬ (oW w = []) := by unfold oW; simpa using q
    rw [if_neg q2, oW_show]
    have hne : w.map nI ≠ [] := by simpa using q
    have free : ∀ p ∈ w.map nI, 44 ∉ p := fun p hp => by
      obtain ⟨i, _, rfl⟩ := List.mem_map.mp hp
      exact not_nT (by omega)
    have e := splt_join hne free
    have n46 : joinT 44 (w.map nI) ≠ [46] := fun z => by
      have : (46 : Nat) ∈ joinT 44 (w.map nI) := by rw [z]; simp
      rcases mem_joinT this with h | ⟨p, hp, h⟩
      · omega
      · obtain ⟨i, _, rfl⟩ := List.mem_map.mp hp
        exact not_nT (by omega) h
    unfold wordC
    rw [if_neg n46, e, if_pos (by rw [List.length_map]; exact h.1), List.map_map]
    have e2 : w.map (numIn ∘ nI) = w.map fun i => some i.toNat := List.map_congr_left fun i hi => numIn_nI (h.2 i hi).1 (by have := (h.2 i hi).2; omega)
    rw [e2, allS_some]
theorem free_showW {c : Nat} (h : c < 44) (w : List Int) : c ∉ showW (oW w) := fun hm => by
  unfold showW at hm
  split at hm
  · simp at hm; omega
  · rw [oW_show] at hm
    rcases mem_joinT hm with h | ⟨p, hp, h⟩
    · omega
    · obtain ⟨i, _, rfl⟩ := List.mem_map.mp hp
      exact not_nT (by omega) h
theorem rowIn_B {b : Bt} (h : NiceB b) : rowIn (rowB b) = some (.bolt b.many.toNat) := by
  have e : splt 32 (rowB b) = [tBolt, nI b.many] := by
    unfold rowB
    rw [splt_cons (by decide), splt_one (not_nI (by omega))]
  unfold rowIn
  rw [e]
  dsimp only
  rw [if_pos rfl, numIn_nI h.1.1 (by have := h.1.2; omega)]
  rfl
theorem rowIn_G {g : Gp} (h : NiceG g) : rowIn (rowG g) = some (.gap g.here.toNat g.there.toNat g.price.toNat) := by
  have e : splt 32 (rowG g) = [tGap, nI g.here, nI g.there, nI g.price] := by
    unfold rowG
    rw [splt_cons (by decide), splt_cons (not_nI (by omega)), splt_cons (not_nI (by omega)), splt_one (not_nI (by omega))]
  unfold rowIn
  rw [e]
  dsimp only
  rw [if_pos rfl, numIn_nI h.1.1 (by have := h.1.2; omega), numIn_nI h.2.1.1 (by have := h.2.1.2; omega), numIn_nI h.2.2.1.1 (by have := h.2.2.1.2; omega)]
  rfl
theorem rowIn_W {w : List Int} (h : NiceW w) : rowIn (rowW w) = some (.way (w.map Int.toNat)) := by
  have e : splt 32 (rowW w) = [tWay, showW (oW w)] := by
    unfold rowW
    rw [splt_cons (by decide), splt_one (free_showW (by omega) w)]
  unfold rowIn
  rw [e]
  dsimp only
  rw [if_neg (by decide), if_pos rfl, wordC_show h]
  rfl
theorem foldS_app {σ τ ρ : Type} (f : σ → τ → σ ⊕ ρ) : ∀ (l m : List τ) (s : σ), foldS f (l ++ m) s = match foldS f l s with
    | .inl s' => foldS f m s'
    | .inr r => .inr r
  | [], m, s => rfl
  | t :: l, m, s => by
    have e : ∀ l : List τ, foldS f (t :: l) s = match f s t with
      | .inl s' => foldS f l s'
      | .inr r => .inr r := fun _ => rfl
    rw [List.cons_append, e, e]
    cases h : f s t with
    | inl s' => exact foldS_app f l m s'
    | inr r => rfl
theorem back_W {w : List Int} (h : NiceW w) : ((w.map Int.toNat).map fun (k : Nat) => (k : Int)) = w := by
  rw [List.map_map]
  have : w.map ((fun (k : Nat) => (k : Int)) ∘ Int.toNat) = w.map id := List.map_congr_left fun i hi => Int.toNat_of_nonneg (h.2 i hi).1
  rw [this, List.map_id]
theorem read_ways (s : List Bt) (m : Int) (gs : List Gp) (a b c : Int) : ∀ (ws : List (List Int)) (k : Nat) (done : List (List Int)), (∀ w ∈ ws, NiceW w) →
    foldS rdStep ((ws.map rowW).zipIdx k) (s ++ [⟨m, gs ++ [⟨a, b, c, done⟩]⟩]) = .inl (s ++ [⟨m, gs ++ [⟨a, b, c, done ++ ws⟩]⟩])
  | [], k, done, _ => by rw [List.append_nil]; rfl
  | w :: ws, k, done, h => by
    have hw := h w List.mem_cons_self
    rw [List.map_cons, List.zipIdx_cons]
    have e : rdStep (s ++ [⟨m, gs ++ [⟨a, b, c, done⟩]⟩]) (rowW w, k) = .inl (s ++ [⟨m, gs ++ [⟨a, b, c, done ++ [w]⟩]⟩]) := by
      unfold rdStep
      rw [rowIn_W hw]
      simp only [back_W hw]
      simp [addWay, orRow]
    unfold foldS
    rw [e]
    dsimp only
    rw [read_ways s m gs a b c ws (k + 1) (done ++ [w]) fun w hw => h w (List.mem_cons_of_mem _ hw), List.append_assoc]
    rfl
theorem read_gap (s : List Bt) (m : Int) (gs : List Gp) (g : Gp) (k : Nat) (h : NiceG g) :
    foldS rdStep ((rowsG g).zipIdx k) (s ++ [⟨m, gs⟩]) = .inl (s ++ [⟨m, gs ++ [g]⟩]) := by
  have e : rdStep (s ++ [⟨m, gs⟩]) (rowG g, k) = .inl (s ++ [⟨m, gs ++ [⟨g.here, g.there, g.price, []⟩]⟩]) := by
    unfold rdStep
    rw [rowIn_G h]
    simp [addGap, orRow, Int.toNat_of_nonneg h.1.1, Int.toNat_of_nonneg h.2.1.1, Int.toNat_of_nonneg h.2.2.1.1]
  unfold rowsG
  rw [List.zipIdx_cons]
  unfold foldS
  rw [e]
  exact read_ways s m gs g.here g.there g.price g.ways (k + 1) [] h.2.2.2
theorem read_gaps (s : List Bt) (m : Int) : ∀ (l : List Gp) (k : Nat) (gs : List Gp), (∀ g ∈ l, NiceG g) →
    foldS rdStep ((l.flatMap rowsG).zipIdx k) (s ++ [⟨m, gs⟩]) = .inl (s ++ [⟨m, gs ++ l⟩])
  | [], k, gs, _ => by rw [List.append_nil]; rfl
  | g :: l, k, gs, h => by
    rw [List.flatMap_cons, List.zipIdx_append, foldS_app, read_gap s m gs g k (h g List.mem_cons_self)]
    dsimp only
    rw [read_gaps s m l _ (gs ++ [g]) fun g hg => h g (List.mem_cons_of_mem _ hg), List.append_assoc]
    rfl
theorem read_bolt (s : List Bt) (b : Bt) (k : Nat) (h : NiceB b) : foldS rdStep ((rowsB b).zipIdx k) s = .inl (s ++ [b]) := by
  have e : rdStep s (rowB b, k) = .inl (s ++ [⟨b.many, []⟩]) := by
    unfold rdStep
    rw [rowIn_B h]
    simp [Int.toNat_of_nonneg h.1.1]
  unfold rowsB
  rw [List.zipIdx_cons]
  unfold foldS
  rw [e]
  exact read_gaps s b.many b.gaps (k + 1) [] h.2.2.2
theorem read_rows : ∀ (l : List Bt) (k : Nat) (s : List Bt), (∀ b ∈ l, NiceB b) → foldS rdStep ((rowsL l).zipIdx k) s = .inl (s ++ l)
  | [], k, s, _ => by rw [List.append_nil]; rfl
  | b :: l, k, s, h => by
    unfold rowsL
    rw [List.flatMap_cons, List.zipIdx_append, foldS_app, read_bolt s b k (h b List.mem_cons_self)]
    dsimp only
    have := read_rows l (k + (rowsB b).length) (s ++ [b]) fun b hb => h b (List.mem_cons_of_mem _ hb)
    unfold rowsL at this
    rw [this, List.append_assoc]
    rfl
theorem free_rows {l : List Bt} : ∀ r ∈ rowsL l, 10 ∉ r := fun r hr => by
  obtain ⟨b, hb, hr⟩ := List.mem_flatMap.mp hr
  have t1 : 10 ∉ tBolt := by decide
  have t2 : 10 ∉ tGap := by decide
  have t3 : 10 ∉ tWay := by decide
  have nn : ∀ i, 10 ∉ nI i := fun i => not_nT (by omega)
  rcases List.mem_cons.mp hr with rfl | hr
  · unfold rowB; simp [t1, nn]
  · obtain ⟨g, hg, hr⟩ := List.mem_flatMap.mp hr
    rcases List.mem_cons.mp hr with rfl | hr
    · unfold rowG; simp [t2, nn]
    · obtain ⟨w, hw, rfl⟩ := List.mem_map.mp hr
      have := free_showW (c := 10) (by omega) w
      unfold rowW; simp [t3, this]
theorem read_show {l : List Bt} (h : Nice l) (hne : l ≠ []) : readB (showL l) = .inl l := by
  have e0 : rowsL l ≠ [] := by
    obtain ⟨b, r, rfl⟩ := List.exists_cons_of_ne_nil hne
    unfold rowsL rowsB
    simp
  have e1 : rowsT (showL l) = rowsL l := by
    unfold rowsT showL
    rw [splt_join e0 free_rows]
    rw [if_neg]
    intro z
    obtain ⟨b, r, rfl⟩ := List.exists_cons_of_ne_nil hne
    have hm : (98 : Nat) ∈ joinT 10 (rowsL (b :: r)) := by
      have e2 : rowsL (b :: r) = rowB b :: (b.gaps.flatMap rowsG ++ rowsL r) := by
        unfold rowsL; rw [List.flatMap_cons]; rfl
      rw [e2]
      cases b.gaps.flatMap rowsG ++ rowsL r with
      | nil => show 98 ∈ rowB b; unfold rowB tBolt; simp
      | cons x y => show 98 ∈ rowB b ++ _; unfold rowB tBolt; simp
    rw [z] at hm
    cases hm
  unfold readB
  rw [e1, read_rows l 0 [] h.2]
  rfl
theorem showL_len {l : List Bt} (h : Nice l) : (showL l).length ≤ 170000 := by
  have h1 := joinT_len 10 (rowsL l)
  have h2 := showL_fit h
  unfold showL
  omega
end MP

set_option Elab.async false
set_option linter.all false
set_option maxRecDepth 100000
set_option maxHeartbeats 4000000
namespace MP
open PySem PySem.Spec PyProof.Rows L2
theorem lex_irr : ∀ a : List Int, HT.lexLt a a = false
  | [] => rfl
  | x :: xs => by rw [HT.lexLt_cons, if_pos rfl]; exact lex_irr xs
theorem lex_trans' : ∀ a b c : List Int, HT.lexLt a b = true → HT.lexLt b c = true → HT.lexLt a c = true
  | [], [], _, h, _ => by cases h
  | [], _ :: _, [], _, h => by cases h
  | [], _ :: _, _ :: _, _, _ => rfl
  | _ :: _, [], _, h, _ => by cases h
  | _ :: _, _ :: _, [], _, h => by cases h
  | x :: xs, y :: ys, z :: zs, h1, h2 => by
    rw [HT.lexLt_cons] at h1 h2 ⊢
    by_cases q1 : x = y
    · subst q1
      rw [if_pos rfl] at h1
      by_cases q2 : x = z
      · subst q2
        rw [if_pos rfl] at h2 ⊢
        exact lex_trans' xs ys zs h1 h2
      · rw [if_neg q2] at h2 ⊢; exact h2
    · rw [if_neg q1, decide_eq_true_eq] at h1
      by_cases q2 : y = z
      · subst q2
        rw [if_neg q1]
        exact decide_eq_true h1
      · rw [if_neg q2, decide_eq_true_eq] at h2
        rw [if_neg (by omega)]
        exact decide_eq_true (by omega)
theorem lex_tot : ∀ a b : List Int, a ≠ b → HT.lexLt a b = false → HT.lexLt b a = true
  | [], [], h, _ => absurd rfl h
  | [], _ :: _, _, h => by cases h
  | _ :: _, [], _, _ => rfl
  | x :: xs, y :: ys, h, h1 => by
    rw [HT.lexLt_cons] at h1 ⊢
    by_cases q : x = y
    · subst q
      rw [if_pos rfl] at h1 ⊢
      exact lex_tot xs ys (fun z => h (by rw [z])) h1
    · rw [if_neg q, decide_eq_false_iff_not] at h1
      rw [if_neg (fun z => q z.symm)]
      exact decide_eq_true (by omega)
def Ris (l : List (List Int)) : Prop := l.Pairwise fun a b => HT.lexLt a b = true
theorem risB_of {l : List (List Int)} (h : Ris l) : risB l = true := by
  unfold risB
  rw [List.all_eq_true]
  intro k hk
  rw [List.mem_range] at hk
  have := List.pairwise_iff_getElem.mp h k (k + 1) (by omega) (by omega) (by omega)
  simpa [List.getD, List.getElem?_eq_getElem (show k < l.length by omega), List.getElem?_eq_getElem (show k + 1 < l.length by omega)] using this
theorem mem_insK (k x : List Int) : ∀ l : List (List Int), x ∈ insK k l ↔ x = k ∨ x ∈ l
  | [] => by simp [insK]
  | y :: l => by
    unfold insK
    split
    · rename_i h; subst h; simp
    · split
      · simp
      · rw [List.mem_cons, mem_insK k x l, List.mem_cons]
        constructor
        · rintro (h | h | h)
          · exact .inr (.inl h)
          · exact .inl h
          · exact .inr (.inr h)
        · rintro (h | h | h)
          · exact .inr (.inl h)
          · exact .inl h
          · exact .inr (.inr h)
theorem ris_insK (k : List Int) : ∀ {l : List (List Int)}, Ris l → Ris (insK k l)
  | [], _ => List.pairwise_singleton _ _
  | y :: l, h => by
    unfold insK
    have h' := List.pairwise_cons.mp h
    split
    · exact h
    · rename_i hne
      split
      · rename_i hlt
        refine List.pairwise_cons.mpr ⟨fun z hz => ?_, h⟩
        rcases List.mem_cons.mp hz with rfl | hz
        · exact hlt
        · exact lex_trans' _ _ _ hlt (h'.1 z hz)
      · rename_i hlt
        refine List.pairwise_cons.mpr ⟨fun z hz => ?_, ris_insK k h'.2⟩
        rcases (mem_insK k z l).mp hz with rfl | hz
        · exact lex_tot _ _ hne (by simpa using hlt)
        · exact h'.1 z hz
theorem ris_setK : ∀ ks : List (List Int), Ris (setK ks)
  | [] => List.Pairwise.nil
  | k :: ks => ris_insK k (ris_setK ks)
theorem mem_setK (x : List Int) : ∀ ks : List (List Int), x ∈ setK ks ↔ x ∈ ks
  | [] => by simp [setK]
  | k :: ks => by
    show x ∈ insK k (setK ks) ↔ _
    rw [mem_insK, mem_setK x ks, List.mem_cons]
theorem nodup_ris {l : List (List Int)} (h : Ris l) : l.Nodup := h.imp fun {a b} hab e => by
  subst e; rw [lex_irr] at hab; cases hab
theorem sub_len {α : Type} [DecidableEq α] : ∀ (xs ys : List α), xs.Nodup → (∀ x ∈ xs, x ∈ ys) → xs.length ≤ ys.length
  | [], _, _, _ => Nat.zero_le _
  | x :: xs, ys, h, hs => by
    have h' := List.nodup_cons.mp h
    have hx : x ∈ ys := hs x List.mem_cons_self
    have := sub_len xs (ys.erase x) h'.2 fun y hy => (List.mem_erase_of_ne (fun e => h'.1 (by rw [← e]; exact hy))).mpr (hs y (List.mem_cons_of_mem _ hy))
    rw [List.length_erase_of_mem hx] at this
    have hl : 0 < ys.length := List.length_pos_of_mem hx
    rw [List.length_cons]
    omega
theorem setK_len {ks L : List (List Int)} (h : ∀ k ∈ ks, k ∈ L) : (setK ks).length ≤ L.length :=
  sub_len _ _ (nodup_ris (ris_setK ks)) fun x hx => h x ((mem_setK x ks).mp hx)
theorem ris_take {l : List (List Int)} (h : Ris l) (n : Nat) : Ris (l.take n) := h.sublist (List.take_sublist n l)
def pr (g : Gp) : List Int := [g.here, g.there]
def PrLt (a b : Gp) : Prop := HT.lexLt (pr a) (pr b) = true
theorem lex2 (a b c d : Int) : HT.lexLt [a, b] [c, d] = true ↔ a < c ∨ (a = c ∧ b < d) := by
  rw [HT.lexLt_cons]
  by_cases q : a = c
  · rw [if_pos q, HT.lexLt_cons]
    by_cases q2 : b = d
    · rw [if_pos q2, HT.lexLt_nil_nil]
      constructor
      · intro h; cases h
      · intro h; omega
    · rw [if_neg q2, decide_eq_true_eq]; omega
  · rw [if_neg q, decide_eq_true_eq]; omega
open PySem.W in
theorem alike_ints : ∀ a b : List Int, alikeAll (a.map fun x => .int x) (b.map fun x => .int x) = true
  | [], b => by simp [alikeAll]
  | _ :: _, [] => rfl
  | x :: a, y :: b => by
    show (alike (.int x) (.int y) && alikeAll _ _) = true
    rw [alike_ints a b]; rfl
open PySem.W in
theorem alike_words : ∀ a b : List (List Int), alikeAll (a.map wD) (b.map wD) = true
  | [], b => by simp [alikeAll]
  | _ :: _, [] => rfl
  | x :: a, y :: b => by
    show (alike (wD x) (wD y) && alikeAll _ _) = true
    have : alike (wD x) (wD y) = true := alike_ints x y
    rw [alike_words a b, this]; rfl
open PySem.W in
theorem alike_gD (g h : Gp) : alike (gD g) (gD h) = true := by
  show (alike (.int g.here) (.int h.here) && (alike (.int g.there) (.int h.there) && (alike (.int g.price) (.int h.price) && (alike (.tuple (g.ways.map wD)) (.tuple (h.ways.map wD)) && alikeAll [] [])))) = true
  have : alike (.tuple (g.ways.map wD)) (.tuple (h.ways.map wD)) = true := alike_words _ _
  rw [this]
  rfl
open PySem.W in
theorem lt_gD {g h : Gp} (e : PrLt g h) : dataLt (gD g) (gD h) = true := by
  have e := (lex2 _ _ _ _).mp e
  unfold gD
  rw [dataLt_tuple, dataLt_cons (x := .int g.here) (y := .int h.here) rfl]
  by_cases q : g.here = h.here
  · rw [if_pos (by show (g.here == h.here) = true; simpa using q), dataLt_cons (x := .int g.there) (y := .int h.there) rfl]
    have q2 : ¬ g.there = h.there := by omega
    rw [if_neg (by show ¬ (g.there == h.there) = true; simpa using q2), dataLt_int]
    exact decide_eq_true (by omega)
  · rw [if_neg (by show ¬ (g.here == h.here) = true; simpa using q), dataLt_int]
    exact decide_eq_true (by omega)
noncomputable def sortG (gs : List Gp) : List Gp := gs.mergeSort fun a b => PySem.W.dataLe false id (gD a) (gD b)
theorem sortG_perm (gs : List Gp) : (sortG gs).Perm gs := List.mergeSort_perm _ _
theorem sortG_ris {gs : List Gp} (h : gs.Pairwise fun a b => pr a ≠ pr b) : (sortG gs).Pairwise PrLt := by
  have T := PySem.W.sortLe_total (α := D) (PyProof.Rows.listOrd PyProof.Rows.itemOrd) false fun b => PySem.W.keyToks (id b)
  have s1 : (sortG gs).Pairwise fun a b => PySem.W.dataLe false id (gD a) (gD b) = true := by
    unfold sortG
    refine List.pairwise_mergeSort (le := fun a b => PySem.W.dataLe false id (gD a) (gD b)) (fun a b c h1 h2 => T.trans (gD a) (gD b) (gD c) h1 h2) (fun a b => ?_) gs
    rw [Bool.or_eq_true]
    exact T.total (gD a) (gD b)
  have s2 : (sortG gs).Pairwise fun a b => pr a ≠ pr b := ((sortG_perm gs).pairwise_iff (fun {a b} h => h.symm)).mpr h
  refine (s1.and s2).imp fun {a b} h => ?_
  obtain ⟨h1, h2⟩ := h
  refine Classical.byContradiction fun z => ?_
  have z' : HT.lexLt (pr a) (pr b) = false := by simpa [PrLt] using z
  have := lt_gD (lex_tot _ _ h2 z')
  have h1 : (!PySem.W.dataLt (gD b) (gD a)) = true := h1
  rw [this] at h1
  cases h1
theorem depth_gD (g : Gp) : (gD g).depth ≤ 40 := by
  have : Lay 3 (gD g) := Lay.tuple fun d hd => by
    simp only [List.mem_cons, List.not_mem_nil, or_false] at hd
    rcases hd with rfl | rfl | rfl | rfl
    · exact Lay.atom rfl 2
    · exact Lay.atom rfl 2
    · exact Lay.atom rfl 2
    · exact Lay.tuple fun d hd => by
        obtain ⟨w, _, rfl⟩ := List.mem_map.mp hd
        exact lay_wD w
  have := this.2
  omega
theorem sortR_gaps (gs : List Gp) : sortR (.list (gs.map gD)) = some (.new ((sortG gs).map gD)) := by
  have a1 : allAlike (gs.map gD) = true := by
    unfold allAlike
    rw [List.all_eq_true]
    intro d hd
    rw [List.all_eq_true]
    intro d' hd'
    obtain ⟨g, _, rfl⟩ := List.mem_map.mp hd
    obtain ⟨g', _, rfl⟩ := List.mem_map.mp hd'
    exact alike_gD g g'
  have a2 : sortable (gs.map gD) = true := by
    unfold sortable
    rw [Bool.or_eq_true]
    left
    rw [List.all_eq_true]
    intro d hd
    obtain ⟨g, _, rfl⟩ := List.mem_map.mp hd
    rfl
  have a3 : ((gs.map gD).all fun d => decide (d.depth ≤ 40)) = true := by
    rw [List.all_eq_true]
    intro d hd
    obtain ⟨g, _, rfl⟩ := List.mem_map.mp hd
    exact decide_eq_true (depth_gD g)
  show (if (allAlike (gs.map gD) && sortable (gs.map gD) && ((gs.map gD).all fun d => decide (d.depth ≤ 40))) = true then some (Res.new (sortL (gs.map gD))) else none) = _
  rw [a1, a2, a3, if_pos (by rfl)]
  congr 2
  unfold sortL sortG
  rw [List.map_mergeSort (r := fun a b => PySem.W.dataLe false id (gD a) (gD b)) (s := PySem.W.dataLe false id) (f := gD) fun a _ b _ => rfl]
def StandOk (sizes s : List Int) : Prop := s.length = sizes.length ∧ ∀ (j : Nat) (v m : Int), s[j]? = some v → sizes[j]? = some m → 0 ≤ v ∧ v < m
def SizesOk (sizes : List Int) : Prop := 1 ≤ sizes.length ∧ sizes.length ≤ 60 ∧ ∀ m ∈ sizes, 2 ≤ m ∧ m ≤ 4
def GapOk (many : Int) (k : Nat) (stands : List (List Int)) (g : Gp) : Prop :=
  ((0 ≤ g.here ∧ g.here < many) ∧ (0 ≤ g.there ∧ g.there < many) ∧ g.here ≠ g.there) ∧ (1 ≤ g.price ∧ g.price ≤ 1000000) ∧ Ris g.ways ∧ ∀ w ∈ g.ways, ∃ s ∈ stands, w = s.take k
def GapsOk (many : Int) (k : Nat) (stands : List (List Int)) (gs : List Gp) : Prop := (gs.map fun g => g.ways.length).sum ≤ 8 ∧ gs.Pairwise PrLt ∧ ∀ g ∈ gs, GapOk many k stands g
def LockOk (sizes : List Int) (stands : List (List Int)) (l : List Bt) : Prop := l.length = sizes.length ∧ ∀ (k : Nat) (b : Bt), l[k]? = some b → sizes[k]? = some b.many ∧ GapsOk b.many k stands b.gaps
def Stands (sizes : List Int) (stands : List (List Int)) : Prop := stands.length ≤ 8 ∧ ∀ s ∈ stands, StandOk sizes s
section
variable {sizes : List Int} {stands : List (List Int)} {l : List Bt}
theorem gaps_len {many : Int} {k : Nat} {gs : List Gp} (hm : many ≤ 4) (h : GapsOk many k stands gs) : gs.length ≤ 12 := by
  have nd : (gs.map pr).Nodup := by
    refine List.pairwise_map.mpr (h.2.1.imp fun {a b} hab e => ?_)
    unfold PrLt at hab
    rw [e, lex_irr] at hab
    cases hab
  have sub : ∀ x ∈ gs.map pr, x ∈ ([[0, 1], [0, 2], [0, 3], [1, 0], [1, 2], [1, 3], [2, 0], [2, 1], [2, 3], [3, 0], [3, 1], [3, 2]] : List (List Int)) := fun x hx => by
    obtain ⟨g, hg, rfl⟩ := List.mem_map.mp hx
    obtain ⟨⟨h1, h2, h3⟩, _⟩ := h.2.2 g hg
    unfold pr
    have a1 : g.here = 0 ∨ g.here = 1 ∨ g.here = 2 ∨ g.here = 3 := by omega
    have a2 : g.there = 0 ∨ g.there = 1 ∨ g.there = 2 ∨ g.there = 3 := by omega
    rcases a1 with a1 | a1 | a1 | a1 <;> rcases a2 with a2 | a2 | a2 | a2 <;> rw [a1, a2] <;> first | exact absurd (a1.trans a2.symm) h3 | decide
  have := sub_len _ _ nd sub
  simpa using this
theorem word_ok (h : LockOk sizes stands l) (hs : Stands sizes stands) {k : Nat} (hk : k ≤ l.length) {s : List Int} (hm : s ∈ stands) : okW (l.take k) (s.take k) ((l.take k).length : Int) = true := by
  have S := hs.2 s hm
  unfold okW
  rw [Bool.and_eq_true, decide_eq_true_eq, List.all_eq_true]
  refine ⟨by rw [List.length_take, List.length_take, S.1, h.1], fun q hq => ?_⟩
  obtain ⟨j, hj, e⟩ := List.mem_iff_getElem.mp hq
  rw [List.getElem_zip] at e
  subst e
  rw [List.length_zip, List.length_take, List.length_take] at hj
  have hj1 : j < s.length := by omega
  have hj2 : j < l.length := by omega
  have e1 := (h.2 j l[j] (List.getElem?_eq_getElem hj2)).1
  have := S.2 j s[j] l[j].many (List.getElem?_eq_getElem hj1) e1
  unfold okPl
  simp only [List.getElem_take, Bool.and_eq_true, decide_eq_true_eq]
  omega
theorem word_nice (hz : SizesOk sizes) (hs : Stands sizes stands) (k : Nat) {s : List Int} (hm : s ∈ stands) : NiceW (s.take k) := by
  have S := hs.2 s hm
  refine ⟨by rw [List.length_take, S.1]; have := hz.2.1; omega, fun i hi => ?_⟩
  obtain ⟨j, hj, rfl⟩ := List.mem_iff_getElem.mp (List.mem_of_mem_take hi)
  have hj2 : j < sizes.length := by rw [← S.1]; exact hj
  have := S.2 j s[j] sizes[j] (List.getElem?_eq_getElem hj) (List.getElem?_eq_getElem hj2)
  have := hz.2.2 sizes[j] (List.getElem_mem _)
  omega
theorem bolt_ok (h : LockOk sizes stands l) (hz : SizesOk sizes) (hs : Stands sizes stands) {k : Nat} {b : Bt} (hk : l[k]? = some b) : okB (l.take k) b = true := by
  obtain ⟨h1, h2⟩ := h.2 k b hk
  have hkl : k < l.length := (List.getElem?_eq_some_iff.mp hk).1
  have hm : 2 ≤ b.many ∧ b.many ≤ 4 := hz.2.2 _ (List.mem_of_getElem? h1)
  have hl := gaps_len hm.2 h2
  unfold okB
  simp only [Bool.and_eq_true, decide_eq_true_eq, List.all_eq_true]
  refine ⟨⟨⟨hm, hl⟩, fun g hg => ?_⟩, risB_of (List.pairwise_map.mpr h2.2.1), ?_⟩
  · obtain ⟨⟨g1, g2, g3⟩, g4, g5, g6⟩ := h2.2.2 g hg
    unfold okG
    simp only [Bool.and_eq_true, decide_eq_true_eq, List.all_eq_true, Bool.not_eq_true', decide_eq_false_iff_not]
    refine ⟨⟨⟨⟨g1.1, by omega⟩, ⟨g2.1, by omega⟩, g3⟩, g4⟩, fun w hw => ?_, risB_of g5⟩
    obtain ⟨s, hs1, rfl⟩ := g6 w hw
    exact word_ok h hs (by omega) hs1
  · have e : ∀ gs : List Gp, (gs.map fun g => (g.ways.length : Int)).sum = (((gs.map fun g => g.ways.length).sum : Nat) : Int) := fun gs => by
      induction gs with
      | nil => rfl
      | cons g gs ih => rw [List.map_cons, List.sum_cons, ih, List.map_cons, List.sum_cons]; omega
    rw [e]
    have := h2.1
    omega
theorem lock_nice (h : LockOk sizes stands l) (hz : SizesOk sizes) (hs : Stands sizes stands) : Nice l := by
  refine ⟨by rw [h.1]; exact hz.2.1, fun b hb => ?_⟩
  obtain ⟨k, hk⟩ := List.mem_iff_getElem?.mp hb
  obtain ⟨h1, h2⟩ := h.2 k b hk
  have hm : 2 ≤ b.many ∧ b.many ≤ 4 := hz.2.2 _ (List.mem_of_getElem? h1)
  refine ⟨by omega, gaps_len hm.2 h2, h2.1, fun g hg => ?_⟩
  obtain ⟨⟨g1, g2, g3⟩, g4, g5, g6⟩ := h2.2.2 g hg
  refine ⟨by omega, by omega, by omega, fun w hw => ?_⟩
  obtain ⟨s, hs1, rfl⟩ := g6 w hw
  exact word_nice hz hs k hs1
theorem fit_nice (h : Nice l) : FitL l := fun b hb => by
  obtain ⟨_, h2, h3, h4⟩ := h.2 b hb
  refine ⟨⟨by omega, fun g hg => ⟨?_, fun w hw => ?_⟩⟩, by omega⟩
  · have : g.ways.length ≤ (b.gaps.map fun g => g.ways.length).sum := le_sum (fun g : Gp => g.ways.length) hg
    omega
  · have := ((h4 g hg).2.2.2 w hw).1
    omega
theorem foldS_cons {σ τ ρ : Type} (f : σ → τ → σ ⊕ ρ) (t : τ) (l : List τ) (s : σ) : foldS f (t :: l) s = match f s t with
    | .inl s' => foldS f l s'
    | .inr r => .inr r := rfl
theorem firstBad_none (h : ∀ (k : Nat) (b : Bt), l[k]? = some b → okB (l.take k) b = true) : firstBad l = .inl () := by
  unfold firstBad
  have : ∀ (m : List (Bt × Nat)), (∀ q ∈ m, okB (l.take q.2) q.1 = true) → foldS (badStep l) m () = .inl () := fun m => by
    induction m with
    | nil => intro _; rfl
    | cons q m ih =>
      intro hm
      have e : badStep l () q = .inl () := by unfold badStep; rw [if_pos (hm q List.mem_cons_self)]
      rw [foldS_cons, e]
      exact ih fun q hq => hm q (List.mem_cons_of_mem _ hq)
  refine this _ fun q hq => ?_
  obtain ⟨b, k⟩ := q
  have := List.mem_zipIdx' hq
  exact h k b (by rw [this.2]; exact List.getElem?_eq_getElem this.1)
theorem firstBad_at {k : Nat} {b : Bt} (hk : l[k]? = some b) (hb : okB (l.take k) b = false) (h : ∀ (j : Nat) (c : Bt), j < k → l[j]? = some c → okB (l.take j) c = true) : firstBad l = .inr k := by
  unfold firstBad
  have hkl : k < l.length := (List.getElem?_eq_some_iff.mp hk).1
  have e : l.zipIdx = (l.take k).zipIdx ++ ((b, k) :: (l.drop (k + 1)).zipIdx (k + 1)) := by
    have e1 : l = l.take k ++ (b :: l.drop (k + 1)) := by
      rw [show b = l[k] by exact (List.getElem?_eq_some_iff.mp hk).2.symm, List.getElem_cons_drop, List.take_append_drop]
    conv => lhs; rw [e1]
    rw [List.zipIdx_append, List.zipIdx_cons, List.length_take, Nat.min_eq_left (by omega)]
    simp
  rw [e, foldS_app]
  have : ∀ (m : List (Bt × Nat)), (∀ q ∈ m, okB (l.take q.2) q.1 = true) → foldS (badStep l) m () = .inl () := fun m => by
    induction m with
    | nil => intro _; rfl
    | cons q m ih =>
      intro hm
      have e : badStep l () q = .inl () := by unfold badStep; rw [if_pos (hm q List.mem_cons_self)]
      rw [foldS_cons, e]
      exact ih fun q hq => hm q (List.mem_cons_of_mem _ hq)
  rw [this _ fun q hq => by
    obtain ⟨c, j⟩ := q
    have := List.mem_zipIdx' hq
    have hj : j < k := by have := this.1; rw [List.length_take] at this; omega
    refine h j c hj ?_
    rw [this.2, List.getElem_take, List.getElem?_eq_getElem]]
  have e2 : badStep l () (b, k) = .inr k := by unfold badStep; rw [hb]; rfl
  dsimp only
  rw [foldS_cons, e2]
theorem wide_none (h : LockOk sizes stands l) (hz : SizesOk sizes) (hs : Stands sizes stands) : ∀ (n : Nat), n ≤ l.length → ∀ s : WSt, s.1 = none → (∀ w ∈ s.2, ∃ st ∈ stands, w.take n = st.take n) → s.2.length ≤ 8 →
    WideOk l (downL n) s ∧ ((downL n).foldl (wideStep l) s).1 = none
  | 0, _, s, h1, _, _ => ⟨trivial, h1⟩
  | k + 1, hn, s, h1, h2, h3 => by
    have hk : k < l.length := by omega
    have hb := List.getElem?_eq_getElem hk
    have e : l.getD k ⟨0, []⟩ = l[k] := by simp [List.getD, hk]
    obtain ⟨b1, b2⟩ := h.2 k l[k] hb
    have mem : ∀ w ∈ cutWs l s.2 k, w ∈ stands.map (List.take k) := fun w hw => by
      unfold cutWs at hw
      rw [e] at hw
      rcases List.mem_append.mp hw with hw | hw
      · obtain ⟨w0, hw0, rfl⟩ := List.mem_map.mp hw
        obtain ⟨st, hst, q⟩ := h2 w0 hw0
        refine List.mem_map.mpr ⟨st, hst, ?_⟩
        have := congrArg (List.take k) q
        rw [List.take_take, List.take_take, Nat.min_eq_left (by omega)] at this
        exact this.symm
      · obtain ⟨g, hg, hw⟩ := List.mem_flatMap.mp hw
        obtain ⟨st, hst, rfl⟩ := (b2.2.2 g hg).2.2.2 w hw
        exact List.mem_map.mpr ⟨st, hst, rfl⟩
    have len : (cutWs l s.2 k).length < 64 := by
      unfold cutWs waysB
      rw [e, List.length_append, List.length_map, List.length_flatMap]
      have := b2.1
      omega
    have keys : okKeys (cutWs l s.2 k) = true := by
      unfold okKeys
      rw [Bool.and_eq_true, decide_eq_true_eq]
      refine ⟨len, ?_⟩
      have klen : ∀ w ∈ cutWs l s.2 k, w.length = k := fun w hw => by
        obtain ⟨st, hst, rfl⟩ := List.mem_map.mp (mem w hw)
        rw [List.length_take, (hs.2 st hst).1, ← h.1]; omega
      have kn : ∀ w ∈ cutWs l s.2 k, NiceW w := fun w hw => by
        obtain ⟨st, hst, rfl⟩ := List.mem_map.mp (mem w hw)
        exact word_nice hz hs k hst
      cases q : cutWs l s.2 k with
      | nil => rfl
      | cons a r =>
        rw [q] at klen kn
        show ((a :: r).all fun q => decide (q.length = a.length) && q.all fun i => decide (0 ≤ i) && decide (i < bdB)) = true
        rw [List.all_eq_true]
        intro w hw
        rw [Bool.and_eq_true, decide_eq_true_eq, List.all_eq_true]
        refine ⟨by rw [klen w hw, klen a List.mem_cons_self], fun i hi => ?_⟩
        have := (kn w hw).2 i hi
        rw [Bool.and_eq_true, decide_eq_true_eq, decide_eq_true_eq]
        exact ⟨this.1, by have := this.2; unfold bdB; omega⟩
    have len2 : (setK (cutWs l s.2 k)).length ≤ 8 := by
      have := setK_len mem
      rw [List.length_map] at this
      have := hs.1
      omega
    have st : wideStep l s k = (none, setK (cutWs l s.2 k)) := by
      unfold wideStep
      rw [if_neg (by omega), h1]
    obtain ⟨r1, r2⟩ := wide_none h hz hs k (by omega) (none, setK (cutWs l s.2 k)) rfl (fun w hw => by
      obtain ⟨st, hst, rfl⟩ := List.mem_map.mp (mem w ((mem_setK w _).mp hw))
      exact ⟨st, hst, by rw [List.take_take, Nat.min_self]⟩) len2
    refine ⟨⟨by omega, keys, ?_⟩, ?_⟩
    · rw [st]; exact r1
    · show ((downL k).foldl (wideStep l) (wideStep l s k)).1 = none
      rw [st]; exact r2
theorem lock_good (h : LockOk sizes stands l) (hz : SizesOk sizes) (hs : Stands sizes stands) : faultD l = .none ∧ WideOk l (downL l.length) (none, []) := by
  obtain ⟨w1, w2⟩ := wide_none h hz hs l.length (Nat.le_refl _) (none, []) rfl (fun w hw => by cases hw) (by simp)
  refine ⟨?_, w1⟩
  unfold faultD
  have hl := hz.1
  have hl2 := hz.2.1
  rw [if_pos (by rw [h.1]; omega), firstBad_none fun k b hk => bolt_ok h hz hs hk]
  show (match (wideGo l).1 with | none => PyData.none | some k => .tuple [.str "words", .int (k : Int)]) = _
  unfold wideGo
  rw [w2]
end
end MP

set_option Elab.async false
set_option linter.all false
set_option maxRecDepth 100000
set_option maxHeartbeats 4000000
namespace MP
open PySem PySem.Spec PyProof.Rows L2
def c__law_pen : C := (.seqS (.ret (.lst (.cons (.bi .list (.cons (.sl (.var 0) .pN (.pS (.cst (PyData.int (63))))) .nil)) (.cons (.cst (PyData.int (0))) (.cons (.cst (PyData.int (0))) .nil))))) .skip)
def f__law_pen : FE := { name := "_law_pen", ps := ["_law_script"], df := [], N := ["_law_script", "0", "1", "2", "3", "4", "5", "6"], code := c__law_pen }
def c__law_draw_r1 : C := (.seqS (.set 11 (.bin .Mod (.bin .Mult (.bin .Add (.bin .Mod (.var 10) (.cst (PyData.int (2147483629)))) (.cst (PyData.int (19)))) (.bin .Add (.bin .Add (.bin .Mult (.var 9) (.var 9)) (.bin .Mult (.cst (PyData.int (3))) (.var 9))) (.cst (PyData.int (7))))) (.cst (PyData.int (2147483647))))) (.seqS (.set 11 (.bin .Mod (.bin .Mult (.bin .Mod (.bin .Add (.bin .Pow (.var 11) (.cst (PyData.int (3)))) (.bin .Mult (.cst (PyData.int (48271))) (.var 9))) (.cst (PyData.int (2147483587)))) (.cst (PyData.int (16807)))) (.cst (PyData.int (2147483399))))) (.seqS (.ret (.bin .Mod (.bin .FloorDiv (.var 11) (.cst (PyData.int (32)))) (.var 1))) .skip)))
def c__law_draw_r2 : C := (.seqS (.ifS (.and (.cmp .Lt (.var 9) (.bi .len (.cons (.sub 0 (.cst (PyData.int (0)))) .nil))) (.cmp .GtE (.var 10) (.bin .Pow (.cst (PyData.int (10))) (.cst (PyData.int (18)))))) (.seqS (.setIx 0 (.cst (PyData.int (2))) (.bin .FloorDiv (.bin .Sub (.var 10) (.bin .Pow (.cst (PyData.int (10))) (.cst (PyData.int (18))))) (.var 1))) (.seqS (.ret (.bin .Mod (.bin .Sub (.var 10) (.bin .Pow (.cst (PyData.int (10))) (.cst (PyData.int (18))))) (.var 1))) .skip)) .skip) c__law_draw_r1)
def c__law_draw_r3 : C := (.seqS (.set 9 (.sub 0 (.cst (PyData.int (1))))) (.seqS (.setIx 0 (.cst (PyData.int (1))) (.bin .Add (.var 9) (.cst (PyData.int (1))))) (.seqS (.set 10 (.cst (PyData.int (17)))) (.seqS (.ifS (.cmp .Gt (.bi .len (.cons (.sub 0 (.cst (PyData.int (0)))) .nil)) (.cst (PyData.int (0)))) (.seqS (.set 10 (.ix (.sub 0 (.cst (PyData.int (0)))) (.bin .Mod (.var 9) (.bi .len (.cons (.sub 0 (.cst (PyData.int (0)))) .nil))))) .skip) .skip) c__law_draw_r2))))
def c__law_draw : C := (.seqS (.ifS (.cmp .Gt (.sub 0 (.cst (PyData.int (2)))) (.cst (PyData.int (0)))) (.seqS (.set 8 (.bin .Mod (.sub 0 (.cst (PyData.int (2)))) (.var 1))) (.seqS (.setIx 0 (.cst (PyData.int (2))) (.bin .FloorDiv (.sub 0 (.cst (PyData.int (2)))) (.var 1))) (.seqS (.ret (.var 8)) .skip))) .skip) c__law_draw_r3)
def f__law_draw : FE := { name := "_law_draw", ps := ["_law_pen_here", "_law_many"], df := [], N := ["_law_pen_here", "_law_many", "0", "1", "2", "3", "4", "5", "_law_found", "_law_at", "_law_cell", "_law_number"], code := c__law_draw }
def c__law_pick : C := (.seqS (.ret (.sub 1 (.call "_law_draw" 2 (.cons (.argN 0) (.cons (.argV (.lenN 1)) .nil)) []))) .skip)
def f__law_pick : FE := { name := "_law_pick", ps := ["_law_pen_here", "_law_lot"], df := [], N := ["_law_pen_here", "_law_lot", "0", "1", "2", "3", "4", "5"], code := c__law_pick }
def c__law_gaps_3e : C := (.var 14)
def c__law_gaps_3c : C := (.cmp .Gt (.call "_law_draw" 2 (.cons (.argN 0) (.cons (.argV (.cst (PyData.int (4)))) .nil)) []) (.cst (PyData.int (0))))
def c__law_gaps_3 : C := (.lc (.seq (.var 2)) [14] (.name 14) c__law_gaps_3c c__law_gaps_3e)
def c__law_gaps_t1 : C := (.and (.cmp .NotEq (.var 10) (.var 11)) (.ifB (.tru (.var 12)) (.cmp .Gt (.call "_law_draw" 2 (.cons (.argN 0) (.cons (.argV (.cst (PyData.int (5)))) .nil)) []) (.cst (PyData.int (0)))) (.cmp .Eq (.call "_law_draw" 2 (.cons (.argN 0) (.cons (.argV (.cst (PyData.int (4)))) .nil)) []) (.cst (PyData.int (0))))))
def c__law_gaps_a1 : C := (.seqS (.set 13 (.sl (.sset c__law_gaps_3) .pN (.pS (.var 9)))) (.seqS (.set 9 (.bin .Sub (.var 9) (.lenN 13))) (.seqS (.set 15 (.call "_law_pick" 2 (.cons (.argN 0) (.cons (.argV (.lst (.cons (.cst (PyData.int (1))) (.cons (.cst (PyData.int (1))) (.cons (.bin .Add (.cst (PyData.int (1))) (.call "_law_draw" 2 (.cons (.argN 0) (.cons (.argV (.cst (PyData.int (5)))) .nil)) [])) (.cons (.bin .Add (.cst (PyData.int (1))) (.call "_law_draw" 2 (.cons (.argN 0) (.cons (.argV (.bin .Pow (.cst (PyData.int (10))) (.cst (PyData.int (6))))) .nil)) [])) (.cons (.bin .Pow (.cst (PyData.int (10))) (.cst (PyData.int (6)))) .nil))))))) .nil)) [])) (.seqS (.app 8 [] (.fr (.tup (.cons (.var 10) (.cons (.var 11) (.cons (.var 15) (.cons (.bi .tuple (.cons (.var 13) .nil)) .nil))))))) .skip))))
def c__law_gaps_2b : C := (.seqS (.set 12 (.ofB (.cmp .Eq (.bi .abs (.cons (.bin .Sub (.var 10) (.var 11)) .nil)) (.cst (PyData.int (1)))))) (.seqS (.ifS c__law_gaps_t1 c__law_gaps_a1 .skip) .skip))
def c__law_gaps_2 : C := (.for (.rng1 (.var 1)) (.name 11) c__law_gaps_2b)
def c__law_gaps_1b : C := (.seqS c__law_gaps_2 .skip)
def c__law_gaps_1 : C := (.for (.rng1 (.var 1)) (.name 10) c__law_gaps_1b)
def c__law_gaps : C := (.seqS (.par 8 9 (.lst .nil) (.cst (PyData.int (8)))) (.seqS c__law_gaps_1 (.seqS (.ret (.bi .tuple (.cons (.var 8) .nil))) .skip)))
def f__law_gaps : FE := { name := "_law_gaps", ps := ["_law_pen_here", "_law_many", "_law_words"], df := [], N := ["_law_pen_here", "_law_many", "_law_words", "0", "1", "2", "3", "4", "_law_gaps_here", "_law_left", "_law_here", "_law_there", "_law_is_near", "_law_lot", "_law_word", "_law_price"], code := c__law_gaps }
def c__law_lock_2e : C := (.call "_law_draw" 2 (.cons (.argN 0) (.cons (.argN 10) .nil)) [])
def c__law_lock_2 : C := (.lc (.seq (.var 1)) [10] (.name 10) .yes c__law_lock_2e)
def c__law_lock_1b : C := (.seqS (.app 8 [] (.fr (.bi .tuple (.cons c__law_lock_2 .nil)))) .skip)
def c__law_lock_1 : C := (.for (.rng1 (.bin .Add (.cst (PyData.int (1))) (.call "_law_draw" 2 (.cons (.argN 0) (.cons (.argV (.cst (PyData.int (8)))) .nil)) []))) (.name 9) c__law_lock_1b)
def c__law_lock_4e : C := (.sl (.var 12) .pN (.pS (.var 9)))
def c__law_lock_4 : C := (.lc (.seq (.var 8)) [12] (.name 12) .yes c__law_lock_4e)
def c__law_lock_3b : C := (.seqS (.app 11 [] (.fr (.tup (.cons (.sub 1 (.var 9)) (.cons (.call "_law_gaps" 3 (.cons (.argN 0) (.cons (.argV (.sub 1 (.var 9))) (.cons (.argV c__law_lock_4) .nil))) []) .nil))))) .skip)
def c__law_lock_3 : C := (.for (.rng1 (.lenN 1)) (.name 9) c__law_lock_3b)
def c__law_lock : C := (.seqS (.set 8 (.lst .nil)) (.seqS c__law_lock_1 (.seqS (.set 11 (.lst .nil)) (.seqS c__law_lock_3 (.seqS (.ret (.bi .tuple (.cons (.var 11) .nil))) .skip)))))
def f__law_lock : FE := { name := "_law_lock", ps := ["_law_pen_here", "_law_sizes_here"], df := [], N := ["_law_pen_here", "_law_sizes_here", "0", "1", "2", "3", "4", "5", "_law_stands", "_law_k", "_law_many", "_law_bolts", "_law_stand"], code := c__law_lock }
def c__law_sizes_1b : C := (.seqS (.set 11 (.bi .min (.cons (.call "_law_pick" 2 (.cons (.argN 0) (.cons (.argV (.lst (.cons (.cst (PyData.int (2))) (.cons (.cst (PyData.int (2))) (.cons (.cst (PyData.int (3))) (.cons (.cst (PyData.int (4))) .nil)))))) .nil)) []) (.cons (.var 9) .nil)))) (.seqS (.ifS (.cmp .Gt (.var 11) (.cst (PyData.int (1)))) (.seqS (.app 8 [] (.fr (.var 11))) (.seqS (.set 9 (.bin .FloorDiv (.var 9) (.var 11))) .skip)) .skip) .skip))
def c__law_sizes_1 : C := (.for (.rng1 (.bin .Add (.cst (PyData.int (1))) (.call "_law_draw" 2 (.cons (.argN 0) (.cons (.argV (.cst (PyData.int (6)))) .nil)) []))) (.name 10) c__law_sizes_1b)
def c__law_sizes : C := (.seqS (.par 8 9 (.lst .nil) (.var 1)) (.seqS c__law_sizes_1 (.seqS (.ret (.var 8)) .skip)))
def f__law_sizes : FE := { name := "_law_sizes", ps := ["_law_pen_here", "_law_most"], df := [], N := ["_law_pen_here", "_law_most", "0", "1", "2", "3", "4", "5", "_law_sizes_here", "_law_left", "_law_k", "_law_many"], code := c__law_sizes }
def c__law_great_1e : C := (.call "_law_pick" 2 (.cons (.argN 0) (.cons (.argV (.lst (.cons (.cst (PyData.int (2))) (.cons (.cst (PyData.int (2))) (.cons (.cst (PyData.int (2))) (.cons (.cst (PyData.int (3))) (.cons (.cst (PyData.int (4))) .nil))))))) .nil)) [])
def c__law_great_1 : C := (.lc (.rng1 (.var 1)) [8] (.name 8) .yes c__law_great_1e)
def c__law_great : C := (.seqS (.ret c__law_great_1) .skip)
def f__law_great : FE := { name := "_law_great", ps := ["_law_pen_here", "_law_many"], df := [], N := ["_law_pen_here", "_law_many", "0", "1", "2", "3", "4", "5", "_law_k"], code := c__law_great }
def c__law_tied_2e : C := (.call "_law_draw" 2 (.cons (.argN 0) (.cons (.argN 10) .nil)) [])
def c__law_tied_2 : C := (.lc (.seq (.var 1)) [10] (.name 10) .yes c__law_tied_2e)
def c__law_tied_1b : C := (.seqS (.app 8 [] (.fr (.bi .tuple (.cons c__law_tied_2 .nil)))) .skip)
def c__law_tied_1 : C := (.for (.rng1 (.bin .Add (.cst (PyData.int (2))) (.call "_law_draw" 2 (.cons (.argN 0) (.cons (.argV (.cst (PyData.int (2)))) .nil)) []))) (.name 9) c__law_tied_1b)
def c__law_tied_4e : C := (.sl (.var 14) .pN (.pS (.var 9)))
def c__law_tied_4 : C := (.lc (.seq (.var 8)) [14] (.name 14) .yes c__law_tied_4e)
def c__law_tied_6e : C := (.call "_law_pick" 2 (.cons (.argN 0) (.cons (.argN 12) .nil)) [])
def c__law_tied_6 : C := (.lc (.rng1 (.bin .Add (.cst (PyData.int (1))) (.bi .int (.cons (.andV (.ofB (.cmp .Eq (.sub 1 (.var 9)) (.cst (PyData.int (2))))) (.ofB (.cmp .Eq (.call "_law_draw" 2 (.cons (.argN 0) (.cons (.argV (.cst (PyData.int (2)))) .nil)) []) (.cst (PyData.int (0)))))) .nil)))) [17] (.name 17) .yes c__law_tied_6e)
def c__law_tied_t1 : C := (.cmp .Gt (.call "_law_draw" 2 (.cons (.argN 0) (.cons (.argV (.cst (PyData.int (8)))) .nil)) []) (.cst (PyData.int (0))))
def c__law_tied_a1 : C := (.seqS (.app 13 [] (.fr (.tup (.cons (.bin .Add (.var 15) (.cst (PyData.int (1)))) (.cons (.var 15) (.cons (.bin .Add (.cst (PyData.int (1))) (.call "_law_draw" 2 (.cons (.argN 0) (.cons (.argV (.cst (PyData.int (3)))) .nil)) [])) (.cons (.bi .tuple (.cons (.var 16) .nil)) .nil))))))) .skip)
def c__law_tied_5b : C := (.seqS (.set 16 (.sset c__law_tied_6)) (.seqS (.set 18 (.call "_law_pick" 2 (.cons (.argN 0) (.cons (.argV (.lst (.cons (.cst (PyData.int (1))) (.cons (.cst (PyData.int (2))) (.cons (.bin .Add (.cst (PyData.int (1))) (.call "_law_draw" 2 (.cons (.argN 0) (.cons (.argV (.cst (PyData.int (9)))) .nil)) [])) (.cons (.bin .Pow (.cst (PyData.int (10))) (.cst (PyData.int (6)))) .nil)))))) .nil)) [])) (.seqS (.app 13 [] (.fr (.tup (.cons (.var 15) (.cons (.bin .Add (.var 15) (.cst (PyData.int (1)))) (.cons (.var 18) (.cons (.bi .tuple (.cons (.var 16) .nil)) .nil))))))) (.seqS (.ifS c__law_tied_t1 c__law_tied_a1 .skip) .skip))))
def c__law_tied_5 : C := (.for (.rng1 (.bin .Sub (.sub 1 (.var 9)) (.cst (PyData.int (1))))) (.name 15) c__law_tied_5b)
def c__law_tied_3b : C := (.seqS (.tgtO [12, 13] (.own (.cons (.sset c__law_tied_4) (.cons (.lst .nil) .nil)))) (.seqS c__law_tied_5 (.seqS (.app 11 [] (.fr (.tup (.cons (.sub 1 (.var 9)) (.cons (.bi .tuple (.cons (.srt (.var 13)) .nil)) .nil))))) .skip)))
def c__law_tied_3 : C := (.for (.rng1 (.lenN 1)) (.name 9) c__law_tied_3b)
def c__law_tied : C := (.seqS (.set 8 (.lst .nil)) (.seqS c__law_tied_1 (.seqS (.set 11 (.lst .nil)) (.seqS c__law_tied_3 (.seqS (.ret (.bi .tuple (.cons (.var 11) .nil))) .skip)))))
def f__law_tied : FE := { name := "_law_tied", ps := ["_law_pen_here", "_law_sizes_here"], df := [], N := ["_law_pen_here", "_law_sizes_here", "0", "1", "2", "3", "4", "5", "_law_stands", "_law_k", "_law_many", "_law_bolts", "_law_words", "_law_gaps_here", "_law_stand", "_law_here", "_law_lot", "_law_j", "_law_price"], code := c__law_tied }
def c__law_fault : C := (.seqS (.set 8 (.cst PyData.none)) (.seqS (.tryF (.seqS (.drop (.call "show_lock" 1 (.cons (.argN 0) .nil) [])) .skip) [("NoLock", true), ("NoText", false)] ["NoLock"] 9 8) (.seqS (.ret (.var 8)) .skip)))
def f__law_fault : FE := { name := "_law_fault", ps := ["_law_thing"], df := [], N := ["_law_thing", "0", "1", "2", "3", "4", "5", "6", "_law_found", "e"], code := c__law_fault }
def c_law_i1 : C := (.ifS (.cmp .Lt (.var 9) (.cst (PyData.int (8)))) (.seqS (.set 10 (.call "_law_sizes" 2 (.cons (.argN 8) (.cons (.argV (.bin .Pow (.cst (PyData.int (4))) (.cst (PyData.int (6))))) .nil)) [])) (.seqS (.set 11 (.call "_law_lock" 2 (.cons (.argN 8) (.cons (.argN 10) .nil)) [])) .skip)) (.seqS (.set 10 (.call "_law_great" 2 (.cons (.argN 8) (.cons (.argV (.bin .Add (.cst (PyData.int (10))) (.call "_law_draw" 2 (.cons (.argN 8) (.cons (.argV (.cst (PyData.int (51)))) .nil)) []))) .nil)) [])) (.seqS (.set 11 (.call "_law_tied" 2 (.cons (.argN 8) (.cons (.argN 10) .nil)) [])) .skip)))
def c_law_i2 : C := (.ifS (.or (.cmp .NotEq (.call "show_lock" 1 (.cons (.argN 11) .nil) []) (.var 12)) (.or (.cmp .NotEq (.rep (.call "read_lock" 1 (.cons (.argN 12) .nil) [])) (.rep (.var 11))) (.cmp .NotEq (.call "show_lock" 1 (.cons (.argV (.call "read_lock" 1 (.cons (.argN 12) .nil) [])) .nil) []) (.var 12)))) (.seqS (.ret (.cst (PyData.bool false))) .skip) .skip)
def c_law_i3 : C := (.ifS (.cmp .NotEq (.rep (.var 17)) (.rep (.lst (.cons (.tup (.cons (.cst (PyData.str "bolt")) (.cons (.var 13) .nil))) (.cons (.tup (.cons (.cst (PyData.str "lock")) .nil)) (.cons (.tup (.cons (.cst (PyData.str "lock")) .nil)) (.cons (.cst PyData.none) .nil))))))) (.seqS (.ret (.cst (PyData.bool false))) .skip) .skip)
def c_law_1b : C := (.seqS c_law_i1 (.seqS (.set 12 (.call "_law_show_lock" 1 (.cons (.argN 11) .nil) [])) (.seqS c_law_i2 (.seqS (.set 13 (.call "_law_draw" 2 (.cons (.argN 8) (.cons (.argV (.lenN 11)) .nil)) [])) (.seqS (.tgt (.tup [14, 15]) (.sub 11 (.var 13))) (.seqS (.set 16 (.bin .Add (.bin .Add (.sl (.var 11) .pN (.pS (.var 13))) (.tup (.cons (.tup (.cons (.var 14) (.cons (.bin .Add (.var 15) (.tup (.cons (.tup (.cons (.cst (PyData.int (0))) (.cons (.cst (PyData.int (0))) (.cons (.cst (PyData.int (1))) (.cons (.tup .nil) .nil))))) .nil))) .nil))) .nil))) (.sl (.var 11) (.pS (.bin .Add (.var 13) (.cst (PyData.int (1))))) .pN))) (.seqS (.set 17 (.lst (.cons (.call "_law_fault" 1 (.cons (.argN 16) .nil) []) (.cons (.call "_law_fault" 1 (.cons (.argV (.tup .nil)) .nil) []) (.cons (.call "_law_fault" 1 (.cons (.argV (.bi .list (.cons (.var 11) .nil))) .nil) []) (.cons (.call "_law_fault" 1 (.cons (.argN 11) .nil) []) .nil)))))) (.seqS c_law_i3 .skip))))))))
def c_law_1 : C := (.for (.rng1 (.cst (PyData.int (10)))) (.name 9) c_law_1b)
def c_law : C := (.seqS (.set 8 (.call "_law_pen" 1 (.cons (.argN 0) .nil) [])) (.seqS c_law_1 (.seqS (.ret (.cst (PyData.bool true))) .skip)))
def f_law : FE := { name := "law", ps := ["_law_script"], df := [], N := ["_law_script", "0", "1", "2", "3", "4", "5", "6", "_law_pen_here", "_law_turn", "_law_sizes_here", "_law_lock_here", "_law_text", "_law_k", "_law_many", "_law_gaps_here", "_law_bad", "_law_told"], code := c_law }
structure Pen where
  cells : List Int
  at_ : Nat
  big : Nat
  few : cells.length ≤ 63
def penO (p : Pen) : O := .lst [.val (.list (p.cells.map fun i => .int i)), .val (.int (p.at_ : Int)), .val (.int (p.big : Int))]
structure HasD (tab : List FE) : Prop where
  draw : At tab "_law_draw" f__law_draw
  pick : At tab "_law_pick" f__law_pick
@[simp] theorem setPen1 (i : Nat) (d : D) (a b c : O) (e : Env) : setIxB i d (.int 1) (some (some (.lst [a, b, c]))) e = .ok .nx (e.set i (some (.lst [a, .val d, c]))) := rfl
@[simp] theorem setPen2 (i : Nat) (d : D) (a b c : O) (e : Env) : setIxB i d (.int 2) (some (some (.lst [a, b, c]))) e = .ok .nx (e.set i (some (.lst [a, b, .val d]))) := rfl
@[simp] theorem pow18 : binR .Pow (.int 10) (.int 18) = some (.val (.int 1000000000000000000)) := bin_pow 10 18 (by omega) (by decide)
@[simp] theorem pow6 : binR .Pow (.int 10) (.int 6) = some (.val (.int 1000000)) := bin_pow 10 6 (by omega) (by decide)
@[simp] theorem pow46 : binR .Pow (.int 4) (.int 6) = some (.val (.int 4096)) := bin_pow 4 6 (by omega) (by decide)
theorem pow3 (i : Int) (h0 : 0 ≤ i) (h : i < 2147483647) : binR .Pow (.int i) (.int 3) = some (.val (.int (i ^ 3))) := bin_pow i 3 (by omega) (by omega)
section
variable {tab : List FE}
/-- the number of a cell and a place -/
def numOf (c a : Int) : Int := (((c % 2147483629 + 19) * (a * a + 3 * a + 7) % 2147483647) ^ 3 + 48271 * a) % 2147483587 * 16807 % 2147483399
theorem draw_num (n : Nat) (x : O) (a : Nat) (m c : Int) (h0 : 0 < m) (hp : a < 1000000000000) :
    (mean (denT tab n) c__law_draw_r1).s
      [some x, some (.val (.int m)), none, none, none, none, none, none, none, some (.val (.int (a : Int))), some (.val (.int c)), none] =
    .ok (.ret (.val (.int (numOf c a / 32 % m)))) [some x, some (.val (.int m)), none, none, none, none, none, none, none, some (.val (.int (a : Int))), some (.val (.int c)), some (.val (.int (numOf c a)))] := by
  have m1 := bin_mod c 2147483629 (by omega)
  have c1 := Int.emod_nonneg c (show (2147483629 : Int) ≠ 0 by omega)
  have c2 := Int.emod_lt_of_pos c (show (0 : Int) < 2147483629 by omega)
  have k1 := bin_mul (a : Int) (a : Int) (by omega) (by omega)
  have k2 := bin_mul 3 (a : Int) (by omega) (by omega)
  have k3 := bin_mul (c % 2147483629 + 19) ((a : Int) * a + 3 * a + 7) (by omega) (by omega)
  have m2 := bin_mod ((c % 2147483629 + 19) * ((a : Int) * a + 3 * a + 7)) 2147483647 (by omega)
  have p1 := Int.emod_nonneg ((c % 2147483629 + 19) * ((a : Int) * a + 3 * a + 7)) (show (2147483647 : Int) ≠ 0 by omega)
  have p2 := Int.emod_lt_of_pos ((c % 2147483629 + 19) * ((a : Int) * a + 3 * a + 7)) (show (0 : Int) < 2147483647 by omega)
  unfold numOf
  generalize (c % 2147483629 + 19) * ((a : Int) * a + 3 * a + 7) % 2147483647 = y1 at *
  have p3 := pow3 y1 p1 p2
  have k4 := bin_mul 48271 (a : Int) (by omega) (by omega)
  have m3 := bin_mod (y1 ^ 3 + 48271 * (a : Int)) 2147483587 (by omega)
  have q1 := Int.emod_nonneg (y1 ^ 3 + 48271 * (a : Int)) (show (2147483587 : Int) ≠ 0 by omega)
  have q2 := Int.emod_lt_of_pos (y1 ^ 3 + 48271 * (a : Int)) (show (0 : Int) < 2147483587 by omega)
  generalize (y1 ^ 3 + 48271 * (a : Int)) % 2147483587 = y2 at *
  have k5 := bin_mul y2 16807 (by omega) (by omega)
  have m4 := bin_mod (y2 * 16807) 2147483399 (by omega)
  have d5 := bin_div (y2 * 16807 % 2147483399) 32 (by omega) (by omega)
  have m5 := bin_mod (y2 * 16807 % 2147483399 / 32) m h0
  generalize y2 * 16807 % 2147483399 = y3 at *
  simp [c__law_draw_r1, m1, k1, k2, k3, m2, p3, k4, m3, k5, m4, d5, m5]
end
section
variable {tab : List FE}
theorem den_draw (H : HasD tab) (n : Nat) (p : Pen) (m : Int) (h0 : 0 < m) (h1 : m < 1073741824) (hp : p.at_ < 1000000000000) :
    ∃ (r : Int) (q : Pen), denT tab (n + 1) "_law_draw" [penO p, .val (.int m)] = .ok (.val (.int r)) [some (penO q), some (.val (.int m))] ∧ 0 ≤ r ∧ r < m ∧ q.at_ ≤ p.at_ + 1 := by
  rw [denT_at H.draw _ _ rfl]
  obtain ⟨cells, at_, big, few⟩ := p
  dsimp only at hp
  by_cases hb : 0 < big
  · refine ⟨(big : Int) % m, ⟨cells, at_, ((big : Int) / m).toNat, few⟩, ?_, Int.emod_nonneg _ (by omega), Int.emod_lt_of_pos _ h0, by dsimp only; omega⟩
    have e1 := bin_mod (big : Int) m h0
    have e2 := bin_div (big : Int) m h0 h1
    have e3 : ((((big : Int) / m).toNat : Nat) : Int) = (big : Int) / m := Int.toNat_of_nonneg (Int.ediv_nonneg (by omega) (by omega))
    simp [f__law_draw, c__law_draw, penO, hb, e1, e2, e3]
  · have hb0 : big = 0 := by omega
    subst hb0
    have m5 := fun y : Int => bin_mod y m h0
    have d6 := fun y : Int => bin_div y m h0 h1
    have done : ∀ (y : Int), ∃ (r : Int) (q : Pen), (FOut.ok (.val (.int (y % m))) [some (.lst [.val (.list (cells.map fun i => .int i)), .val (.int ((at_ : Int) + 1)), .val (.int 0)]), some (.val (.int m))] : FOut) = .ok (.val (.int r)) [some (penO q), some (.val (.int m))] ∧ 0 ≤ r ∧ r < m ∧ q.at_ ≤ at_ + 1 := fun y =>
      ⟨y % m, ⟨cells, at_ + 1, 0, few⟩, rfl, Int.emod_nonneg _ (by omega), Int.emod_lt_of_pos _ h0, Nat.le_refl _⟩
    have num := draw_num (tab := tab) n
    by_cases hl : cells.length = 0
    · have e0 : cells = [] := List.length_eq_zero_iff.mp hl
      subst e0
      obtain ⟨r, q, e, h⟩ := done (numOf 17 at_ / 32)
      refine ⟨r, q, ?_, h⟩
      rw [← e]
      have num := num (.lst [.val (.list []), .val (.int ((at_ : Int) + 1)), .val (.int 0)]) at_ m 17 h0 hp
      simp [f__law_draw, c__law_draw, c__law_draw_r2, c__law_draw_r3, penO, num]

    · have hl0 : (0 : Int) < cells.length := by omega
      have hne : cells ≠ [] := fun z => hl (by rw [z]; rfl)
      have mk := bin_mod (at_ : Int) (cells.length : Int) hl0
      have hlt : at_ % cells.length < cells.length := Nat.mod_lt _ (by omega)
      have ek : (at_ : Int) % (cells.length : Int) = ((at_ % cells.length : Nat) : Int) := by simp
      have ec : atI (cells.map fun i => PyData.int i) ((at_ : Int) % (cells.length : Int)) = some (.int cells[at_ % cells.length]) := by
        rw [ek, atI_nat, List.getElem?_map, List.getElem?_eq_getElem hlt]; rfl
      generalize cells[at_ % cells.length] = c at ec
      generalize hds : cells.map (fun i => PyData.int i) = ds at *
      have lds : ds.length = cells.length := by rw [← hds, List.length_map]
      by_cases hbig : (at_ : Int) < cells.length ∧ 1000000000000000000 ≤ c
      · refine ⟨(c - 1000000000000000000) % m, ⟨cells, at_ + 1, ((c - 1000000000000000000) / m).toNat, few⟩, ?_, Int.emod_nonneg _ (by omega), Int.emod_lt_of_pos _ h0, Nat.le_refl _⟩
        have e3 : ((((c - 1000000000000000000) / m).toNat : Nat) : Int) = (c - 1000000000000000000) / m := Int.toNat_of_nonneg (Int.ediv_nonneg (by omega) (by omega))
        simp [f__law_draw, c__law_draw, c__law_draw_r2, c__law_draw_r3, penO, hds, lds, hl0, hne, mk, ec, hbig.1, hbig.2, m5, d6, e3]
      · obtain ⟨r, q, e, h⟩ := done (numOf c at_ / 32)
        refine ⟨r, q, ?_, h⟩
        rw [← e]
        have num := num (.lst [.val (.list ds), .val (.int ((at_ : Int) + 1)), .val (.int 0)]) at_ m c h0 hp
        by_cases hb1 : (at_ : Int) < cells.length
        · have hb2 : ¬ (1000000000000000000 ≤ c) := fun z => hbig ⟨hb1, z⟩
          simp [f__law_draw, c__law_draw, c__law_draw_r2, c__law_draw_r3, penO, hds, lds, hl0, hne, mk, ec, hb1, hb2, num]
        · simp [f__law_draw, c__law_draw, c__law_draw_r2, c__law_draw_r3, penO, hds, lds, hl0, hne, mk, ec, hb1, num]
end
@[simp] theorem argO_pen (i : Nat) (p : Pen) (e : Env) : argO i (some (some (penO p))) e = .ok (.lend i) e := (rfl)
section
variable {tab : List FE}
theorem atI_int {α : Type} {xs : List α} {r : Int} (h0 : 0 ≤ r) (h : r < xs.length) : ∃ d, atI xs r = some d ∧ d ∈ xs := by
  have e : r = ((r.toNat : Nat) : Int) := (Int.toNat_of_nonneg h0).symm
  have hl : r.toNat < xs.length := by omega
  have h2 := atI_nat xs r.toNat
  rw [← e, List.getElem?_eq_getElem hl] at h2
  exact ⟨xs[r.toNat], h2, List.getElem_mem hl⟩
theorem den_pick (H : HasD tab) (n : Nat) (p : Pen) (ds : List D) (hne : ds ≠ []) (hl : ds.length < 1073741824) (hp : p.at_ < 1000000000000) :
    ∃ (d : D) (q : Pen), denT tab (n + 2) "_law_pick" [penO p, .val (.list ds)] = .ok (.val d) [some (penO q), some (.val (.list ds))] ∧ d ∈ ds ∧ q.at_ ≤ p.at_ + 1 := by
  rw [denT_at H.pick _ _ rfl]
  have h0 : (0 : Int) < ds.length := by have := List.length_pos_iff.mpr hne; omega
  obtain ⟨r, q, e, r0, r1, hq⟩ := den_draw H n p ds.length h0 (by omega) hp
  obtain ⟨d, ed, hd⟩ := atI_int (xs := ds) r0 r1
  refine ⟨d, q, ?_, hd, hq⟩
  simp [f__law_pick, c__law_pick, e, ed]
theorem den_pick_own (H : HasD tab) (n : Nat) (p : Pen) (ds : List D) (hne : ds ≠ []) (hl : ds.length < 1073741824) (hp : p.at_ < 1000000000000) :
    ∃ (d : D) (q : Pen), denT tab (n + 2) "_law_pick" [penO p, .lst (vals ds)] = .ok (.val d) [some (penO q), some (.lst (vals ds))] ∧ d ∈ ds ∧ q.at_ ≤ p.at_ + 1 := by
  rw [denT_at H.pick _ _ rfl]
  have h0 : (0 : Int) < ds.length := by have := List.length_pos_iff.mpr hne; omega
  obtain ⟨r, q, e, r0, r1, hq⟩ := den_draw H n p ds.length h0 (by omega) hp
  obtain ⟨d, ed, hd⟩ := atI_int (xs := ds) r0 r1
  have ed2 : atI (vals ds) r = some (.val d) := by
    have e : r = ((r.toNat : Nat) : Int) := (Int.toNat_of_nonneg r0).symm
    rw [e, atI_nat] at ed ⊢
    rw [getElem?_vals, ed]; rfl
  refine ⟨d, q, ?_, hd, hq⟩
  simp [f__law_pick, c__law_pick, e, ed2]
structure HasG (tab : List FE) : Prop where
  gaps : At tab "_law_gaps" f__law_gaps
  lock : At tab "_law_lock" f__law_lock
  sizes : At tab "_law_sizes" f__law_sizes
  great : At tab "_law_great" f__law_great
  tied : At tab "_law_tied" f__law_tied
abbrev szEnc (s : Pen × List Int × Int) (y : Option O × Option O) : Env :=
  [some (penO s.1), some (.val (.int 4096)), none, none, none, none, none, none, some (.lst (vals (s.2.1.map fun i => .int i))), some (.val (.int s.2.2)), y.1, y.2]
theorem sz_step (H : HasD tab) (n : Nat) (s : Pen × List Int × Int) (y : Option O × Option O) (k : D) (hp : s.1.at_ < 1000000000000) (hl : s.2.1.length < 100) :
    ∃ (v : Int) (q : Pen) (y' : Option O × Option O), (2 ≤ v ∧ v ≤ 4) ∧ q.at_ ≤ s.1.at_ + 1 ∧ (mean (denT tab (n + 2)) c__law_sizes_1b).s (szEnc s (some (.val k), y.2)) =
      .ok .nx (szEnc (if 1 < (if s.2.2 < v then s.2.2 else v) then (q, s.2.1 ++ [if s.2.2 < v then s.2.2 else v], s.2.2 / (if s.2.2 < v then s.2.2 else v)) else (q, s.2.1, s.2.2)) y') := by
  obtain ⟨p, sizes, left⟩ := s
  dsimp only at hp hl ⊢
  obtain ⟨d, q, e, hd, hq⟩ := den_pick H n p [.int 2, .int 2, .int 3, .int 4] (by simp) (by simp) hp
  have hv : ∃ v : Int, d = .int v ∧ 2 ≤ v ∧ v ≤ 4 := by
    simp only [List.mem_cons, List.not_mem_nil, or_false] at hd
    rcases hd with rfl | rfl | rfl | rfl <;> exact ⟨_, rfl, by omega, by omega⟩
  obtain ⟨v, rfl, v1, v2⟩ := hv
  have hl2 : (sizes.map fun i => PyData.int i).length < 16777216 := by rw [List.length_map]; omega
  generalize hds : sizes.map (fun i => PyData.int i) = ds at *
  by_cases c : left < v
  · by_cases c2 : 1 < left
    · have dv := bin_div left left (by omega) (by omega)
      refine ⟨v, q, (some (.val k), some (.val (.int left))), ⟨v1, v2⟩, hq, ?_⟩
      simp only [if_pos c, if_pos c2]
      simp [c__law_sizes_1b, szEnc, hds, e, c, c2, hl2, dv]
    · refine ⟨v, q, (some (.val k), some (.val (.int left))), ⟨v1, v2⟩, hq, ?_⟩
      simp only [if_pos c, if_neg c2]
      simp [c__law_sizes_1b, szEnc, hds, e, c, c2, hl2]
  · have c2 : 1 < v := by omega
    have dv := bin_div left v (by omega) (by omega)
    refine ⟨v, q, (some (.val k), some (.val (.int v))), ⟨v1, v2⟩, hq, ?_⟩
    simp only [if_neg c, if_pos c2]
    simp [c__law_sizes_1b, szEnc, hds, e, c, c2, hl2, dv]
theorem den_sizes (H : HasD tab) (HG : HasG tab) (n : Nat) (p : Pen) (hp : p.at_ < 100000000000) :
    ∃ (sizes : List Int) (q : Pen), denT tab (n + 3) "_law_sizes" [penO p, .val (.int 4096)] = .ok (.val (.list (sizes.map fun i => .int i))) [some (penO q), some (.val (.int 4096))] ∧ SizesOk sizes ∧ sizes.length ≤ 6 ∧ q.at_ ≤ p.at_ + 7 := by
  rw [denT_at HG.sizes _ _ rfl]
  obtain ⟨r, q, e, r0, r1, hq⟩ := den_draw H (n + 1) p 6 (by omega) (by omega) (by omega)
  have hb : bigOk (1 + r) = true := bigOk_of (by omega) (by omega)
  have k := forGo_rel (σ := Pen × List Int × Int) (χ := Option O × Option O) szEnc (fun k : Nat => .int (k : Int)) (tg := tgF [] (.name 10)) (body := (mean (denT tab (n + 2)) c__law_sizes_1b).s)
    (fun rem s => s.1.at_ + rem.length ≤ p.at_ + 1 + (1 + r).toNat ∧ (∀ m ∈ s.2.1, 2 ≤ m ∧ m ≤ 4) ∧ s.2.1.length + rem.length ≤ 6 ∧ (s.2.1 ≠ [] ∨ (rem.length = (1 + r).toNat ∧ s.2.2 = 4096))) (List.range (1 + r).toNat) (fun s y t rem ht hi => by
      obtain ⟨i1, i2, i3, i4⟩ := hi
      rw [List.length_cons] at i1 i3 i4
      obtain ⟨v, q2, y', hv, hq2, hs⟩ := sz_step H n s y (.int (t : Int)) (by omega) (by omega)
      refine ⟨_, y', ?_, _, rfl, .inl hs⟩
      by_cases c : 1 < (if s.2.2 < v then s.2.2 else v)
      · rw [if_pos c]
        refine ⟨by dsimp only; omega, fun m hm => ?_, by dsimp only; rw [List.length_append, List.length_singleton]; omega, .inl (by simp)⟩
        rcases List.mem_append.mp hm with hm | hm
        · exact i2 m hm
        · rw [List.mem_singleton] at hm
          subst hm
          split <;> split at c <;> omega
      · rw [if_neg c]
        refine ⟨by dsimp only; omega, i2, by dsimp only; omega, ?_⟩
        rcases i4 with i4 | ⟨_, i4⟩
        · exact .inl i4
        · exfalso
          rw [i4] at c
          split at c <;> omega) (q, [], 4096) (none, none) ⟨by dsimp only; rw [List.length_range]; omega, fun m hm => (by simp at hm), by dsimp only; rw [List.length_range]; simp; omega, .inr ⟨by rw [List.length_range], rfl⟩⟩
  obtain ⟨s', y', ⟨j1, j2, j3, j4⟩, k⟩ := k
  rw [List.length_nil] at j1 j3 j4
  have ne : s'.2.1 ≠ [] := by
    rcases j4 with j4 | ⟨j4, _⟩
    · exact j4
    · omega
  refine ⟨s'.2.1, s'.1, ?_, ⟨List.length_pos_iff.mpr ne, by omega, j2⟩, by omega, by omega⟩
  have e1 : (mean (denT tab (n + 2)) c__law_sizes_1).s [some (penO p), some (.val (.int 4096)), none, none, none, none, none, none, some (.lst []), some (.val (.int 4096)), none, none] = .ok .nx (szEnc s' y') := by
    rw [← k, c__law_sizes_1, me_for_s, ev_sFor]
    simp [e, hb, rangeD_eq, szEnc]
  unfold szEnc at e1
  simp [f__law_sizes, c__law_sizes, e1]
end
section
variable {tab : List FE}
/-- words of one length, small -/
def WordsOk (words : List (List Int)) : Prop := words.length ≤ 8 ∧ ∃ k, ∀ w ∈ words, w.length = k ∧ NiceW w
theorem keys_ok {words ws : List (List Int)} (h : WordsOk words) (hs : ∀ w ∈ ws, w ∈ words) (hl : ws.length ≤ 8) : okKeys ws = true := by
  obtain ⟨h1, k, h2⟩ := h
  unfold okKeys
  rw [Bool.and_eq_true, decide_eq_true_eq]
  refine ⟨by omega, ?_⟩
  cases ws with
  | nil => rfl
  | cons a r =>
    show ((a :: r).all fun q => decide (q.length = a.length) && q.all fun i => decide (0 ≤ i) && decide (i < bdB)) = true
    rw [List.all_eq_true]
    intro w hw
    obtain ⟨w1, w2⟩ := h2 w (hs w hw)
    obtain ⟨a1, _⟩ := h2 a (hs a List.mem_cons_self)
    rw [Bool.and_eq_true, decide_eq_true_eq, List.all_eq_true]
    refine ⟨by rw [w1, a1], fun i hi => ?_⟩
    have := w2.2 i hi
    rw [Bool.and_eq_true, decide_eq_true_eq, decide_eq_true_eq]
    exact ⟨this.1, by have := this.2; unfold bdB; omega⟩
theorem law_words (H : HasD tab) (n : Nat) (p : Pen) (o1 o8 o9 o10 o11 o12 o13 o15 : Option O) (words : List (List Int)) (hw : words.length ≤ 8) (hp : p.at_ < 900000000000) :
    ∃ (q : Pen) (ws : List (List Int)), (∀ w ∈ ws, w ∈ words) ∧ ws.length ≤ 8 ∧ q.at_ ≤ p.at_ + 8 ∧ (mean (denT tab (n + 1)) c__law_gaps_3).o [some (penO p), o1, some (.val (.list (words.map wD))), none, none, none, none, none, o8, o9, o10, o11, o12, o13, none, o15] =
      .ok (.lst (vals (ws.map wD))) [some (penO q), o1, some (.val (.list (words.map wD))), none, none, none, none, none, o8, o9, o10, o11, o12, o13, none, o15] := by
  have k := mLc_rel (σ := Pen) (τ := List Int) (υ := List Int) (fun p => [some (penO p), o1, some (.val (.list (words.map wD))), none, none, none, none, none, o8, o9, o10, o11, o12, o13, none, o15]) wD wD
    (it := (mean (denT tab (n + 1)) (.seq (.var 2))).i) (ws := [14]) (tg := tgF [] (.name 14)) (cond := (mean (denT tab (n + 1)) c__law_gaps_3c).b) (elt := fz (mean (denT tab (n + 1)) c__law_gaps_3e).o)
    (fun rem q acc => (∀ w ∈ acc, w ∈ words) ∧ acc.length + rem.length ≤ 8 ∧ q.at_ + rem.length ≤ p.at_ + words.length) words p (e := [some (penO p), o1, some (.val (.list (words.map wD))), none, none, none, none, none, o8, o9, o10, o11, o12, o13, none, o15]) (e0 := [some (penO p), o1, some (.val (.list (words.map wD))), none, none, none, none, none, o8, o9, o10, o11, o12, o13, none, o15])
    (by simp) rfl (fun _ => rfl) rfl ⟨by simp, by simpa using hw, by omega⟩ (by omega) (fun p' t r acc ht hi => by
      obtain ⟨i1, i2, i3⟩ := hi
      rw [List.length_cons] at i2 i3
      obtain ⟨v, q, e, v0, v1, hq⟩ := den_draw H n p' 4 (by omega) (by omega) (by omega)
      by_cases c : 0 < v
      · refine ⟨_, [some (penO q), o1, some (.val (.list (words.map wD))), none, none, none, none, none, o8, o9, o10, o11, o12, o13, some (.val (wD t)), o15], rfl, .inl ⟨t, q, [some (penO q), o1, some (.val (.list (words.map wD))), none, none, none, none, none, o8, o9, o10, o11, o12, o13, some (.val (wD t)), o15], ⟨?_, ?_, by omega⟩, ?_, ?_, rfl⟩⟩
        · intro w hw'
          rcases List.mem_append.mp hw' with h | h
          · exact i1 w h
          · rw [List.mem_singleton] at h; subst h; exact ht
        · rw [List.length_append, List.length_singleton]; omega
        · simp [c__law_gaps_3c, e, c]
        · simp [c__law_gaps_3e]
      · refine ⟨_, [some (penO q), o1, some (.val (.list (words.map wD))), none, none, none, none, none, o8, o9, o10, o11, o12, o13, some (.val (wD t)), o15], rfl, .inr ⟨q, ⟨i1, by omega, by omega⟩, ?_, rfl⟩⟩
        simp [c__law_gaps_3c, e]
        omega)
  obtain ⟨q, ws, ⟨j1, j2, j3⟩, k⟩ := k
  rw [List.length_nil] at j2 j3
  refine ⟨q, ws, j1, by omega, by omega, ?_⟩
  rw [c__law_gaps_3, me_lc_o, k]
  rfl
abbrev GSt := Pen × List Gp × Nat
def gpEnc (m : Int) (words : List (List Int)) (s : GSt) (here : Option O) (y : Y4) : Env :=
  [some (penO s.1), some (.val (.int m)), some (.val (.list (words.map wD))), none, none, none, none, none, some (.lst (vals (s.2.1.map gD))), some (.val (.int (s.2.2 : Int))), here, y.1, y.2.1, y.2.2.1, none, y.2.2.2]
theorem gp_test (H : HasD tab) (n : Nat) (p : Pen) (here there av : Int) (c : here ≠ there) (o1 o2 o8 o9 o13 o15 : Option O) (hp : p.at_ < 900000000000) :
    ∃ (t : Bool) (q : Pen), q.at_ ≤ p.at_ + 1 ∧ (mean (denT tab (n + 2)) c__law_gaps_t1).b [some (penO p), o1, o2, none, none, none, none, none, o8, o9, some (.val (.int here)), some (.val (.int there)), some (.val (.bool (decide (av = 1)))), o13, none, o15] =
      .ok t [some (penO q), o1, o2, none, none, none, none, none, o8, o9, some (.val (.int here)), some (.val (.int there)), some (.val (.bool (decide (av = 1)))), o13, none, o15] := by
  by_cases nr : av = 1
  · obtain ⟨v, q, e, v0, v1, hq⟩ := den_draw H (n + 1) p 5 (by omega) (by omega) (by omega)
    refine ⟨decide (0 < v), q, hq, ?_⟩
    rw [decide_eq_true nr]
    simp [c__law_gaps_t1, e, c]
  · obtain ⟨v, q, e, v0, v1, hq⟩ := den_draw H (n + 1) p 4 (by omega) (by omega) (by omega)
    refine ⟨decide (v = 0), q, hq, ?_⟩
    rw [decide_eq_false nr]
    simp [c__law_gaps_t1, e, c]
theorem gp_add (H : HasD tab) (n : Nat) (m : Int) (words : List (List Int)) (hwd : WordsOk words) (p : Pen) (gaps : List Gp) (left : Nat) (here there : Int) (o12 o13 o15 : Option O) (hp : p.at_ < 900000000000) (hl : gaps.length < 1000) :
    ∃ (q : Pen) (price : Int) (lot : List (List Int)) (y13 : Option O), q.at_ ≤ p.at_ + 11 ∧ (1 ≤ price ∧ price ≤ 1000000) ∧ Ris lot ∧ (∀ w ∈ lot, w ∈ words) ∧ lot.length ≤ left ∧
      (mean (denT tab (n + 2)) c__law_gaps_a1).s [some (penO p), some (.val (.int m)), some (.val (.list (words.map wD))), none, none, none, none, none, some (.lst (vals (gaps.map gD))), some (.val (.int (left : Int))), some (.val (.int here)), some (.val (.int there)), o12, o13, none, o15] =
        .ok .nx [some (penO q), some (.val (.int m)), some (.val (.list (words.map wD))), none, none, none, none, none, some (.lst (vals ((gaps ++ [(⟨here, there, price, lot⟩ : Gp)]).map gD))), some (.val (.int ((left - lot.length : Nat) : Int))), some (.val (.int here)), some (.val (.int there)), o12, y13, none, some (.val (.int price))] := by
  obtain ⟨q1, ws, w1, w2, w3, e1⟩ := law_words H (n + 1) p (some (.val (.int m))) (some (.lst (vals (gaps.map gD)))) (some (.val (.int (left : Int)))) (some (.val (.int here))) (some (.val (.int there))) o12 o13 o15 words hwd.1 (by omega)
  obtain ⟨v2, q2, e2, v20, v21, h2⟩ := den_draw H (n + 1) q1 5 (by omega) (by omega) (by omega)
  obtain ⟨v3, q3, e3, v30, v31, h3⟩ := den_draw H (n + 1) q2 1000000 (by omega) (by omega) (by omega)
  obtain ⟨d, q4, e4, hd, h4⟩ := den_pick H n q3 [.int 1, .int 1, .int (1 + v2), .int (1 + v3), .int 1000000] (by simp) (by simp) (by omega)
  have hv : ∃ v : Int, d = .int v ∧ 1 ≤ v ∧ v ≤ 1000000 := by
    simp only [List.mem_cons, List.not_mem_nil, or_false] at hd
    rcases hd with rfl | rfl | rfl | rfl | rfl <;> exact ⟨_, rfl, by omega, by omega⟩
  obtain ⟨price, rfl, pr1, pr2⟩ := hv
  have ss := sortSet_wD ws (keys_ok hwd w1 w2)
  have ct : cutD ((setK ws).map wD) none (some (left : Int)) = ((setK ws).take left).map wD := by rw [cut_to, List.map_take]
  have ln : (((setK ws).take left).map wD).length = ((setK ws).take left).length := List.length_map ..
  refine ⟨q4, price, (setK ws).take left, some (.val (.list (((setK ws).take left).map wD))), by omega, ⟨pr1, pr2⟩, ris_take (ris_setK ws) left, fun w hw => w1 w ((mem_setK w ws).mp (List.mem_of_mem_take hw)), by rw [List.length_take]; omega, ?_⟩
  have hsub : ((left - ((setK ws).take left).length : Nat) : Int) = (left : Int) - ((setK ws).take left).length := by
    have : ((setK ws).take left).length ≤ left := by rw [List.length_take]; omega
    omega
  rw [hsub]
  have eg : gD ⟨here, there, price, (setK ws).take left⟩ = .tuple [.int here, .int there, .int price, .tuple (((setK ws).take left).map wD)] := rfl
  rw [List.map_append, List.map_singleton, eg]
  have hgl : (gaps.map gD).length < 16777216 := by rw [List.length_map]; omega
  generalize (setK ws).take left = lot at *
  generalize (setK ws).map wD = ds1 at *
  generalize hlot : lot.map wD = ds2 at *
  generalize gaps.map gD = gs at *
  generalize words.map wD = W at *
  generalize ws.map wD = W2 at *
  simp [c__law_gaps_a1, e1, ss, ct, ln, e2, e3, e4, hgl]
theorem gp_step (H : HasD tab) (n : Nat) (m : Int) (words : List (List Int)) (hwd : WordsOk words) (s : GSt) (here there : Int) (y : Y4) (hp : s.1.at_ < 800000000000) (hl : s.2.1.length < 1000) :
    ∃ (s' : GSt) (y' : Y4), s'.1.at_ ≤ s.1.at_ + 12 ∧ ((s'.2.1 = s.2.1 ∧ s'.2.2 = s.2.2) ∨ ∃ (price : Int) (lot : List (List Int)), here ≠ there ∧ (1 ≤ price ∧ price ≤ 1000000) ∧ Ris lot ∧ (∀ w ∈ lot, w ∈ words) ∧ lot.length + s'.2.2 = s.2.2 ∧ s'.2.1 = s.2.1 ++ [(⟨here, there, price, lot⟩ : Gp)]) ∧
      (mean (denT tab (n + 2)) c__law_gaps_2b).s (gpEnc m words s (some (.val (.int here))) (some (.val (.int there)), y.2)) = .ok .nx (gpEnc m words s' (some (.val (.int here))) y') := by
  obtain ⟨p, gaps, left⟩ := s
  dsimp only at hp hl ⊢
  have ab : ∃ av, absR [.int (here - there)] = some (.val (.int av)) := ⟨_, rfl⟩
  obtain ⟨av, ab⟩ := ab
  by_cases c : here = there
  · refine ⟨(p, gaps, left), (some (.val (.int there)), some (.val (.bool (decide (av = 1)))), y.2.2), by dsimp only; omega, .inl ⟨rfl, rfl⟩, ?_⟩
    subst c
    simp [-absR_int, -Int.sub_self, c__law_gaps_2b, c__law_gaps_t1, gpEnc, ab]
  · obtain ⟨t, q, hq, e⟩ := gp_test H n p here there av c (some (.val (.int m))) (some (.val (.list (words.map wD)))) (some (.lst (vals (gaps.map gD)))) (some (.val (.int (left : Int)))) y.2.2.1 y.2.2.2 (by omega)
    cases t with
    | false =>
      refine ⟨(q, gaps, left), (some (.val (.int there)), some (.val (.bool (decide (av = 1)))), y.2.2), by dsimp only; omega, .inl ⟨rfl, rfl⟩, ?_⟩
      unfold gpEnc
      simp [-absR_int, c__law_gaps_2b, e, ab]
    | true =>
      obtain ⟨q2, price, lot, y13, h1, h2, h3, h4, h5, e2⟩ := gp_add H n m words hwd q gaps left here there (some (.val (.bool (decide (av = 1))))) y.2.2.1 y.2.2.2 (by omega) hl
      refine ⟨(q2, gaps ++ [(⟨here, there, price, lot⟩ : Gp)], left - lot.length), (some (.val (.int there)), some (.val (.bool (decide (av = 1)))), y13, some (.val (.int price))), by dsimp only; omega, .inr ⟨price, lot, c, h2, h3, h4, by dsimp only; omega, rfl⟩, ?_⟩
      unfold gpEnc
      dsimp only
      generalize (gaps ++ [(⟨here, there, price, lot⟩ : Gp)]).map gD = gs2 at *
      generalize gaps.map gD = gs at *
      generalize words.map wD = W at *
      generalize ((left - lot.length : Nat) : Int) = L2 at *
      simp [-absR_int, c__law_gaps_2b, e, e2, ab]
end
section
variable {tab : List FE}
def GI (m : Int) (words : List (List Int)) (gaps : List Gp) (left : Nat) : Prop :=
  (gaps.map fun g => g.ways.length).sum + left = 8 ∧ gaps.Pairwise PrLt ∧ ∀ g ∈ gaps, ((0 ≤ g.here ∧ g.here < m) ∧ (0 ≤ g.there ∧ g.there < m) ∧ g.here ≠ g.there) ∧ (1 ≤ g.price ∧ g.price ≤ 1000000) ∧ Ris g.ways ∧ ∀ w ∈ g.ways, w ∈ words
theorem gi_add {m : Int} {words : List (List Int)} {gaps : List Gp} {left left' : Nat} (h : GI m words gaps left) {g : Gp} (hl : g.ways.length + left' = left) (hg : ((0 ≤ g.here ∧ g.here < m) ∧ (0 ≤ g.there ∧ g.there < m) ∧ g.here ≠ g.there) ∧ (1 ≤ g.price ∧ g.price ≤ 1000000) ∧ Ris g.ways ∧ ∀ w ∈ g.ways, w ∈ words) (hp : ∀ g' ∈ gaps, PrLt g' g) :
    GI m words (gaps ++ [g]) left' := by
  refine ⟨?_, List.pairwise_append.mpr ⟨h.2.1, List.pairwise_singleton _ _, fun a ha b hb => ?_⟩, fun a ha => ?_⟩
  · rw [List.map_append, List.sum_append]
    have := h.1
    simp
    omega
  · rw [List.mem_singleton] at hb; subst hb; exact hp a ha
  · rcases List.mem_append.mp ha with ha | ha
    · exact h.2.2 a ha
    · rw [List.mem_singleton] at ha; subst ha; exact hg
theorem gp_inner (H : HasD tab) (n : Nat) (m : Nat) (hm : m ≤ 4) (words : List (List Int)) (hwd : WordsOk words) (s : GSt) (here : Nat) (hh : here < m) (y : Y4) (hp : s.1.at_ < 700000000000) (hl : s.2.1.length < 500) (hi : GI m words s.2.1 s.2.2) (hb : ∀ g ∈ s.2.1, g.here < here) :
    ∃ (s' : GSt) (y' : Y4), s'.1.at_ ≤ s.1.at_ + 48 ∧ s'.2.1.length ≤ s.2.1.length + 4 ∧ GI m words s'.2.1 s'.2.2 ∧ (∀ g ∈ s'.2.1, g.here < here + 1) ∧
      (mean (denT tab (n + 2)) c__law_gaps_2).s (gpEnc m words s (some (.val (.int (here : Int)))) y) = .ok .nx (gpEnc m words s' (some (.val (.int (here : Int)))) y') := by
  have k := forGo_rel (σ := GSt) (χ := Y4) (fun s y => gpEnc m words s (some (.val (.int (here : Int)))) y) (fun k : Nat => .int (k : Int)) (tg := tgF [] (.name 11)) (body := (mean (denT tab (n + 2)) c__law_gaps_2b).s)
    (fun rem t => t.1.at_ + 12 * rem.length ≤ s.1.at_ + 12 * m ∧ t.2.1.length + rem.length ≤ s.2.1.length + m ∧ GI m words t.2.1 t.2.2 ∧ (∀ g ∈ t.2.1, g.here < here ∨ (g.here = here ∧ ∀ x ∈ rem, g.there < (x : Nat))) ∧ rem.Pairwise (· < ·) ∧ ∀ x ∈ rem, x < m) (List.range m) (fun t y x rem ht i => by
      obtain ⟨i1, i2, i3, i4, i5, i6⟩ := i
      rw [List.length_cons] at i1 i2
      have i5' := List.pairwise_cons.mp i5
      obtain ⟨t', y', h1, h2, h3⟩ := gp_step H n m words hwd t here x y (by omega) (by omega)
      refine ⟨t', y', ?_, _, rfl, .inl h3⟩
      rcases h2 with ⟨e1, e2⟩ | ⟨price, lot, n1, n2, n3, n4, n5, e1⟩
      · rw [e1, e2]
        refine ⟨by omega, by omega, i3, fun g hg => ?_, i5'.2, fun z hz => i6 z (List.mem_cons_of_mem _ hz)⟩
        rcases i4 g hg with h | ⟨h, h'⟩
        · exact .inl h
        · exact .inr ⟨h, fun z hz => h' z (List.mem_cons_of_mem _ hz)⟩
      · rw [e1]
        have hx := i6 x List.mem_cons_self
        refine ⟨by omega, by rw [List.length_append, List.length_singleton]; omega, gi_add i3 n5 ⟨⟨⟨by dsimp only; omega, by dsimp only; omega⟩, ⟨by dsimp only; omega, by dsimp only; omega⟩, n1⟩, n2, n3, n4⟩ (fun g hg => ?_), fun g hg => ?_, i5'.2, fun z hz => i6 z (List.mem_cons_of_mem _ hz)⟩
        · refine (lex2 _ _ _ _).mpr ?_
          rcases i4 g hg with h | ⟨h, h'⟩
          · exact .inl h
          · exact .inr ⟨h, h' x List.mem_cons_self⟩
        · rcases List.mem_append.mp hg with hg | hg
          · rcases i4 g hg with h | ⟨h, h'⟩
            · exact .inl h
            · exact .inr ⟨h, fun z hz => h' z (List.mem_cons_of_mem _ hz)⟩
          · rw [List.mem_singleton] at hg; subst hg
            exact .inr ⟨rfl, fun z hz => by have := i5'.1 z hz; show (x : Int) < z; omega⟩) s y ⟨by rw [List.length_range]; omega, by rw [List.length_range]; omega, hi, fun g hg => .inl (hb g hg), List.pairwise_lt_range, fun x hx => List.mem_range.mp hx⟩
  obtain ⟨s', y', ⟨j1, j2, j3, j4, _, _⟩, k⟩ := k
  rw [List.length_nil] at j1 j2
  refine ⟨s', y', by omega, by omega, j3, fun g hg => ?_, ?_⟩
  · rcases j4 g hg with h | ⟨h, _⟩ <;> omega
  · have b : bigOk (m : Int) = true := bigOk_of (by omega) (by omega)
    rw [← k, c__law_gaps_2, me_for_s, ev_sFor]
    simp [gpEnc, b, rangeD_eq]
theorem den_gaps (H : HasD tab) (HG : HasG tab) (n : Nat) (m : Nat) (hm : m ≤ 4) (words : List (List Int)) (hwd : WordsOk words) (p : Pen) (hp : p.at_ < 600000000000) :
    ∃ (gs : List Gp) (q : Pen) (left : Nat), denT tab (n + 3) "_law_gaps" [penO p, .val (.int (m : Int)), .val (.list (words.map wD))] = .ok (.val (.tuple (gs.map gD))) [some (penO q), some (.val (.int (m : Int))), some (.val (.list (words.map wD)))] ∧ q.at_ ≤ p.at_ + 200 ∧ GI m words gs left := by
  rw [denT_at HG.gaps _ _ rfl]
  have k := forGo_rel (σ := GSt) (χ := Option O × Y4) (fun s y => gpEnc m words s y.1 y.2) (fun k : Nat => .int (k : Int)) (tg := tgF [] (.name 10)) (body := (mean (denT tab (n + 2)) c__law_gaps_1b).s)
    (fun rem t => t.1.at_ + 48 * rem.length ≤ p.at_ + 48 * m ∧ t.2.1.length + 4 * rem.length ≤ 4 * m ∧ GI m words t.2.1 t.2.2 ∧ (∀ g ∈ t.2.1, ∀ x ∈ rem, g.here < (x : Nat)) ∧ rem.Pairwise (· < ·) ∧ ∀ x ∈ rem, x < m) (List.range m) (fun t y x rem ht i => by
      obtain ⟨i1, i2, i3, i4, i5, i6⟩ := i
      rw [List.length_cons] at i1 i2
      have i5' := List.pairwise_cons.mp i5
      obtain ⟨t', y', h1, h2, h3, h4, h5⟩ := gp_inner H n m hm words hwd t x (i6 x List.mem_cons_self) y.2 (by omega) (by omega) i3 (fun g hg => i4 g hg x List.mem_cons_self)
      refine ⟨t', (some (.val (.int (x : Int))), y'), ⟨by omega, by omega, h3, fun g hg z hz => by have := h4 g hg; have := i5'.1 z hz; omega, i5'.2, fun z hz => i6 z (List.mem_cons_of_mem _ hz)⟩, gpEnc m words t (some (.val (.int (x : Int)))) y.2, rfl, .inl ?_⟩
      unfold gpEnc at h5 ⊢
      simp [c__law_gaps_1b, h5]) (p, [], 8) (none, none, none, none, none) ⟨by rw [List.length_range]; dsimp only; omega, by rw [List.length_range]; dsimp only; simp, ⟨rfl, List.Pairwise.nil, fun g hg => (by cases hg)⟩, fun g hg => (by cases hg), List.pairwise_lt_range, fun x hx => List.mem_range.mp hx⟩
  obtain ⟨s', y', ⟨j1, j2, j3, _, _, _⟩, k⟩ := k
  rw [List.length_nil] at j1 j2
  refine ⟨s'.2.1, s'.1, s'.2.2, ?_, by omega, j3⟩
  have b : bigOk (m : Int) = true := bigOk_of (by omega) (by omega)
  have e1 : (mean (denT tab (n + 2)) c__law_gaps_1).s [some (penO p), some (.val (.int (m : Int))), some (.val (.list (words.map wD))), none, none, none, none, none, some (.lst []), some (.val (.int 8)), none, none, none, none, none, none] = .ok .nx (gpEnc m words s' y'.1 y'.2) := by
    rw [← k, c__law_gaps_1, me_for_s, ev_sFor]
    simp [gpEnc, b, rangeD_eq]
  unfold gpEnc at e1
  generalize words.map wD = W at *
  simp [f__law_gaps, c__law_gaps, e1]
end
/-- a list that may be one's own still -/
def mayO (b : Bool) (ds : List D) : O := if b then .val (.list ds) else .lst (vals ds)
@[simp] theorem lenO_may (b : Bool) (ds : List D) (e : Env) : lenO (some (some (mayO b ds))) e = .ok (.val (.int ds.length)) e := by cases b <;> simp [mayO]
@[simp] theorem subB_may (b : Bool) (ds : List D) (k : Int) (e : Env) : subB (some (some (mayO b ds))) (.int k) e = getO (atI ds k) e := by
  cases b
  · show getOO (atI (vals ds) k) e = _
    have : atI (vals ds) k = (atI ds k).map O.val := by
      unfold atI
      rw [vals_length]
      cases ixN ds.length k with
      | none => rfl
      | some j => exact getElem?_vals ds j
    rw [this, getOO_vals]
  · simp [mayO]
@[simp] theorem varO_may (i : Nat) (b : Bool) (ds : List D) (e : Env) : varO i (some (some (mayO b ds))) e = .ok (.val (.list ds)) (if b then e else e.set i (some (.val (.list ds)))) := by
  cases b <;> simp [mayO]
@[simp] theorem frz_may (b : Bool) (ds : List D) : (mayO b ds).frz = .list ds := by cases b <;> simp [mayO]
theorem mayO_true (ds : List D) : mayO true ds = .val (.list ds) := rfl
section
variable {tab : List FE}
theorem stand_more {sizes acc rem : List Int} {t v : Int} (h : ∀ (j : Nat) (v m : Int), acc[j]? = some v → sizes[j]? = some m → 0 ≤ v ∧ v < m) (hd : t :: rem = sizes.drop acc.length) (v0 : 0 ≤ v) (v1 : v < t) :
    ∀ (j : Nat) (u m : Int), (acc ++ [v])[j]? = some u → sizes[j]? = some m → 0 ≤ u ∧ u < m := fun j u m h1 h2 => by
  by_cases q : j < acc.length
  · rw [List.getElem?_append_left q] at h1
    exact h j u m h1 h2
  · have q2 : j = acc.length := by
      have := (List.getElem?_eq_some_iff.mp h1).1
      rw [List.length_append, List.length_singleton] at this
      omega
    subst q2
    rw [List.getElem?_append_right (Nat.le_refl _)] at h1
    simp at h1
    subst h1
    have : sizes[acc.length]? = some t := by
      have := congrArg (fun z => z[0]?) hd
      simpa using this.symm
    rw [this] at h2
    cases h2
    exact ⟨v0, v1⟩
theorem drop_more {sizes acc rem : List Int} {t v : Int} (hd : t :: rem = sizes.drop acc.length) : rem = sizes.drop (acc ++ [v]).length := by
  rw [List.length_append, List.length_singleton, ← List.drop_drop, ← hd]
  rfl
theorem lk_stand (H : HasD tab) (n : Nat) (p : Pen) (b : Bool) (sizes : List Int) (hz : SizesOk sizes) (o8 o9 o11 : Option O) (hp : p.at_ < 900000000000) :
    ∃ (q : Pen) (s : List Int), StandOk sizes s ∧ q.at_ ≤ p.at_ + 60 ∧ (mean (denT tab (n + 1)) c__law_lock_2).o [some (penO p), some (mayO b (sizes.map fun i => .int i)), none, none, none, none, none, none, o8, o9, none, o11, none] =
      .ok (.lst (vals (s.map fun i => .int i))) [some (penO q), some (mayO true (sizes.map fun i => .int i)), none, none, none, none, none, none, o8, o9, none, o11, none] := by
  have k := mLc_rel (σ := Pen) (τ := Int) (υ := Int) (fun p => [some (penO p), some (mayO true (sizes.map fun i => .int i)), none, none, none, none, none, none, o8, o9, none, o11, none]) (fun i => .int i) (fun i => .int i)
    (it := (mean (denT tab (n + 1)) (.seq (.var 1))).i) (ws := [10]) (tg := tgF [] (.name 10)) (cond := (mean (denT tab (n + 1)) .yes).b) (elt := fz (mean (denT tab (n + 1)) c__law_lock_2e).o)
    (fun rem q acc => rem = sizes.drop acc.length ∧ acc.length + rem.length = sizes.length ∧ q.at_ + rem.length ≤ p.at_ + sizes.length ∧ ∀ (j : Nat) (v m : Int), acc[j]? = some v → sizes[j]? = some m → 0 ≤ v ∧ v < m) sizes p
    (e := [some (penO p), some (mayO b (sizes.map fun i => .int i)), none, none, none, none, none, none, o8, o9, none, o11, none]) (e0 := [some (penO p), some (mayO true (sizes.map fun i => .int i)), none, none, none, none, none, none, o8, o9, none, o11, none])
    (by cases b <;> simp [mayO]) rfl (fun _ => rfl) rfl ⟨rfl, by simp, by omega, fun j v m h => by simp at h⟩ (by have := hz.2.1; omega) (fun p' t r acc ht hi => by
      obtain ⟨i1, i2, i3, i4⟩ := hi
      rw [List.length_cons] at i2 i3
      have ht2 := hz.2.2 t ht
      have hzl := hz.2.1
      obtain ⟨v, q, e, v0, v1, hq⟩ := den_draw H n p' t (by omega) (by omega) (by omega)
      refine ⟨_, [some (penO p'), some (mayO true (sizes.map fun i => .int i)), none, none, none, none, none, none, o8, o9, some (.val (.int t)), o11, none], rfl, .inl ⟨v, q, [some (penO q), some (mayO true (sizes.map fun i => .int i)), none, none, none, none, none, none, o8, o9, some (.val (.int t)), o11, none], ⟨drop_more i1, ?_, by omega, stand_more i4 i1 v0 v1⟩, rfl, ?_, rfl⟩⟩
      · rw [List.length_append, List.length_singleton]; omega
      · simp [c__law_lock_2e, e])
  obtain ⟨q, s, ⟨_, j2, j3, j4⟩, k⟩ := k
  rw [List.length_nil] at j2 j3
  refine ⟨q, s, ⟨by omega, j4⟩, by have := hz.2.1; omega, ?_⟩
  rw [c__law_lock_2, me_lc_o, k]
  rfl
def lkEnc (sizes : List Int) (s : Pen × Bool × List (List Int)) (y : Option O) : Env :=
  [some (penO s.1), some (mayO s.2.1 (sizes.map fun i => .int i)), none, none, none, none, none, none, some (.lst (vals (s.2.2.map wD))), y, none, none, none]
theorem lk_stands (H : HasD tab) (n : Nat) (p : Pen) (b : Bool) (sizes : List Int) (hz : SizesOk sizes) (hp : p.at_ < 800000000000) :
    ∃ (q : Pen) (b' : Bool) (stands : List (List Int)) (y : Option O), Stands sizes stands ∧ q.at_ ≤ p.at_ + 500 ∧ (mean (denT tab (n + 1)) c__law_lock_1).s [some (penO p), some (mayO b (sizes.map fun i => .int i)), none, none, none, none, none, none, some (.lst []), none, none, none, none] = .ok .nx (lkEnc sizes (q, b', stands) y) := by
  obtain ⟨r, q, e, r0, r1, hq⟩ := den_draw H n p 8 (by omega) (by omega) (by omega)
  have hb : bigOk (1 + r) = true := bigOk_of (by omega) (by omega)
  have k := forGo_rel (σ := Pen × Bool × List (List Int)) (χ := Option O) (lkEnc sizes) (fun k : Nat => .int (k : Int)) (tg := tgF [] (.name 9)) (body := (mean (denT tab (n + 1)) c__law_lock_1b).s)
    (fun rem s => s.1.at_ + 60 * rem.length ≤ p.at_ + 1 + 60 * (1 + r).toNat ∧ s.2.2.length + rem.length ≤ 8 ∧ ∀ st ∈ s.2.2, StandOk sizes st) (List.range (1 + r).toNat) (fun s y t rem ht hi => by
      obtain ⟨i1, i2, i3⟩ := hi
      rw [List.length_cons] at i1 i2
      obtain ⟨q2, st, h1, h2, h3⟩ := lk_stand H n s.1 s.2.1 sizes hz none (some (.val (.int (t : Int)))) none (by omega)
      refine ⟨(q2, true, s.2.2 ++ [st]), some (.val (.int (t : Int))), ⟨by dsimp only; omega, by dsimp only; rw [List.length_append, List.length_singleton]; omega, fun x hx => ?_⟩, _, rfl, .inl ?_⟩
      · rcases List.mem_append.mp hx with hx | hx
        · exact i3 x hx
        · rw [List.mem_singleton] at hx; subst hx; exact h1
      · have hl : (s.2.2.map wD).length < 16777216 := by rw [List.length_map]; omega
        unfold lkEnc
        dsimp only
        rw [List.map_append, List.map_singleton, wD]
        generalize s.2.2.map wD = S at *
        generalize st.map (fun x => PyData.int x) = W at *
        simp [c__law_lock_1b, h3, hl]) (q, b, []) none ⟨by rw [List.length_range]; dsimp only; omega, by rw [List.length_range]; dsimp only; simp; omega, fun st hst => (by cases hst)⟩
  obtain ⟨s', y', ⟨j1, j2, j3⟩, k⟩ := k
  rw [List.length_nil] at j1 j2
  refine ⟨s'.1, s'.2.1, s'.2.2, y', ⟨by omega, j3⟩, by omega, ?_⟩
  rw [← k, c__law_lock_1, me_for_s, ev_sFor]
  simp [e, hb, rangeD_eq, lkEnc]
end
section
variable {tab : List FE}
def lk3Enc (sizes : List Int) (stands : List (List Int)) (bs : Bool) (s : Pen × Bool × List Bt) (y : Option O) : Env :=
  [some (penO s.1), some (mayO bs (sizes.map fun i => .int i)), none, none, none, none, none, none, some (mayO s.2.1 (stands.map wD)), y, none, some (.lst (vals (s.2.2.map bD))), none]
theorem gaps_ok {m : Int} {k : Nat} {stands : List (List Int)} {gs : List Gp} {left : Nat} (h : GI m (stands.map (List.take k)) gs left) : GapsOk m k stands gs := by
  refine ⟨by have := h.1; omega, h.2.1, fun g hg => ?_⟩
  obtain ⟨h1, h2, h3, h4⟩ := h.2.2 g hg
  refine ⟨h1, h2, h3, fun w hw => ?_⟩
  obtain ⟨s, hs, e⟩ := List.mem_map.mp (h4 w hw)
  exact ⟨s, hs, e.symm⟩
theorem words_ok {sizes : List Int} {stands : List (List Int)} (hz : SizesOk sizes) (hs : Stands sizes stands) {k : Nat} (hk : k ≤ sizes.length) : WordsOk (stands.map (List.take k)) := by
  refine ⟨by rw [List.length_map]; exact hs.1, k, fun w hw => ?_⟩
  obtain ⟨s, hm, rfl⟩ := List.mem_map.mp hw
  exact ⟨by rw [List.length_take, (hs.2 s hm).1]; omega, word_nice hz hs k hm⟩
theorem bolts_more {sizes : List Int} {stands : List (List Int)} {bolts : List Bt} {m : Int} {gs : List Gp} (h : ∀ (k : Nat) (b : Bt), bolts[k]? = some b → sizes[k]? = some b.many ∧ GapsOk b.many k stands b.gaps) (h1 : sizes[bolts.length]? = some m) (h2 : GapsOk m bolts.length stands gs) :
    ∀ (k : Nat) (b : Bt), (bolts ++ [⟨m, gs⟩])[k]? = some b → sizes[k]? = some b.many ∧ GapsOk b.many k stands b.gaps := fun k b hb => by
  by_cases q : k < bolts.length
  · rw [List.getElem?_append_left q] at hb
    exact h k b hb
  · have q2 : k = bolts.length := by
      have := (List.getElem?_eq_some_iff.mp hb).1
      rw [List.length_append, List.length_singleton] at this
      omega
    subst q2
    rw [List.getElem?_append_right (Nat.le_refl _)] at hb
    simp at hb
    subst hb
    exact ⟨h1, h2⟩
theorem den_lock (H : HasD tab) (HG : HasG tab) (n : Nat) (p : Pen) (b : Bool) (sizes : List Int) (hz : SizesOk sizes) (hp : p.at_ < 400000000000) :
    ∃ (l : List Bt) (q : Pen) (stands : List (List Int)) (b' : Bool), denT tab (n + 4) "_law_lock" [penO p, mayO b (sizes.map fun i => .int i)] = .ok (.val (lD l)) [some (penO q), some (mayO b' (sizes.map fun i => .int i))] ∧ LockOk sizes stands l ∧ Stands sizes stands ∧ q.at_ ≤ p.at_ + 20000 := by
  rw [denT_at HG.lock _ _ rfl]
  obtain ⟨q0, b0, stands, y0, hs, hq0, e0⟩ := lk_stands H (n + 2) p b sizes hz (by omega)
  have hzl := hz.2.1
  have k := forGo_rel (σ := Pen × Bool × List Bt) (χ := Option O) (lk3Enc sizes stands b0) (fun k : Nat => .int (k : Int)) (tg := tgF [] (.name 9)) (body := (mean (denT tab (n + 3)) c__law_lock_3b).s)
    (fun rem s => s.1.at_ + 200 * rem.length ≤ q0.at_ + 200 * sizes.length ∧ s.2.2.length + rem.length = sizes.length ∧ rem = List.range' s.2.2.length rem.length ∧ ∀ (k : Nat) (b : Bt), s.2.2[k]? = some b → sizes[k]? = some b.many ∧ GapsOk b.many k stands b.gaps) (List.range sizes.length) (fun s y t rem ht hi => by
      obtain ⟨i1, i2, i3, i4⟩ := hi
      rw [List.length_cons] at i1 i2 i3
      rw [List.range'_succ] at i3
      obtain ⟨rfl, i3b⟩ := List.cons.inj i3
      have hk : s.2.2.length < sizes.length := by omega
      have hm := hz.2.2 sizes[s.2.2.length] (List.getElem_mem hk)
      have em : sizes[s.2.2.length] = ((sizes[s.2.2.length].toNat : Nat) : Int) := (Int.toNat_of_nonneg (by omega)).symm
      obtain ⟨gs, q2, left, e1, h1, h2⟩ := den_gaps H HG n sizes[s.2.2.length].toNat (by omega) (stands.map (List.take s.2.2.length)) (words_ok hz hs (by omega)) s.1 (by omega)
      rw [← em] at e1 h2
      refine ⟨(q2, true, s.2.2 ++ [⟨sizes[s.2.2.length], gs⟩]), some (.val (.int (s.2.2.length : Int))), ⟨by dsimp only; omega, by dsimp only; rw [List.length_append, List.length_singleton]; omega, by dsimp only; rw [List.length_append, List.length_singleton]; exact i3b, bolts_more i4 (List.getElem?_eq_getElem hk) (gaps_ok h2)⟩, _, rfl, .inl ?_⟩
      have c4 : ∀ o11, (mean (denT tab (n + 3)) c__law_lock_4).o [some (penO s.1), some (mayO b0 (sizes.map fun i => .int i)), none, none, none, none, none, none, some (mayO s.2.1 (stands.map wD)), some (.val (.int (s.2.2.length : Int))), none, o11, none] =
          .ok (.lst (vals ((stands.map (List.take s.2.2.length)).map wD))) [some (penO s.1), some (mayO b0 (sizes.map fun i => .int i)), none, none, none, none, none, none, some (mayO true (stands.map wD)), some (.val (.int (s.2.2.length : Int))), none, o11, none] := fun o11 => by
        rw [c__law_lock_4, me_lc_o, List.map_map]
        refine mLc_pure wD (fun w => wD (w.take s.2.2.length)) stands (e0 := [some (penO s.1), some (mayO b0 (sizes.map fun i => .int i)), none, none, none, none, none, none, some (mayO true (stands.map wD)), some (.val (.int (s.2.2.length : Int))), none, o11, none]) ?_ rfl rfl rfl rfl (by have := hs.1; omega) fun w hw => ⟨_, rfl, rfl, rfl, ?_⟩
        · cases s.2.1 <;> simp [mayO]
        · have e : slR (wD w) none (some (s.2.2.length : Int)) = some (.val (wD (w.take s.2.2.length))) := by
            show some (Res.val (.tuple (cutD _ _ _))) = _
            rw [cut_to, wD, List.map_take]
          simp [c__law_lock_4e, e]
      have ex : atI (sizes.map fun i => PyData.int i) (s.2.2.length : Int) = some (.int sizes[s.2.2.length]) := by
        rw [atI_nat, List.getElem?_map, List.getElem?_eq_getElem hk]; rfl
      have hl : (s.2.2.map bD).length < 16777216 := by rw [List.length_map]; omega
      unfold lk3Enc
      dsimp only
      rw [List.map_append, List.map_singleton, show bD ⟨sizes[s.2.2.length], gs⟩ = .tuple [.int sizes[s.2.2.length], .tuple (gs.map gD)] from rfl]
      generalize (stands.map (List.take s.2.2.length)).map wD = W at *
      generalize sizes[s.2.2.length] = m at *
      generalize s.2.2.map bD = S at *
      simp [c__law_lock_3b, c4, ex, e1, hl]) (q0, false, []) y0 ⟨by rw [List.length_range]; dsimp only; omega, by rw [List.length_range]; simp, by rw [List.length_range, List.range_eq_range']; rfl, fun k b h => by simp at h⟩
  obtain ⟨s', y', ⟨j1, j2, _, j4⟩, k⟩ := k
  rw [List.length_nil] at j1 j2
  have e3 : (mean (denT tab (n + 3)) c__law_lock_3).s (lk3Enc sizes stands b0 (q0, false, []) y0) = .ok .nx (lk3Enc sizes stands b0 s' y') := by
    have hb : bigOk (sizes.length : Int) = true := bigOk_of (by omega) (by omega)
    rw [← k, c__law_lock_3, me_for_s, ev_sFor]
    simp [hb, rangeD_eq, lk3Enc]
  refine ⟨s'.2.2, s'.1, stands, b0, ?_, ⟨by omega, j4⟩, hs, by omega⟩
  have e3' : (mean (denT tab (n + 3)) c__law_lock_3).s [some (penO q0), some (mayO b0 (sizes.map fun i => .int i)), none, none, none, none, none, none, some (.lst (vals (stands.map wD))), y0, none, some (.lst []), none] = .ok .nx [some (penO s'.1), some (mayO b0 (sizes.map fun i => .int i)), none, none, none, none, none, none, some (mayO s'.2.1 (stands.map wD)), y', none, some (.lst (vals (s'.2.2.map bD))), none] := e3
  unfold lkEnc at e0
  dsimp only at e0
  unfold lD
  generalize s'.2.2.map bD = B at *
  generalize stands.map wD = S at *
  generalize sizes.map (fun i => PyData.int i) = Z at *
  simp [f__law_lock, c__law_lock, e0, e3']
end
section
variable {tab : List FE}
theorem td_stand (H : HasD tab) (n : Nat) (p : Pen) (b : Bool) (sizes : List Int) (hz : SizesOk sizes) (o8 o9 o11 o12 o13 o14 o15 o16 o17 o18 : Option O) (hp : p.at_ < 900000000000) :
    ∃ (q : Pen) (s : List Int), StandOk sizes s ∧ q.at_ ≤ p.at_ + 60 ∧ (mean (denT tab (n + 1)) c__law_tied_2).o [some (penO p), some (mayO b (sizes.map fun i => .int i)), none, none, none, none, none, none, o8, o9, none, o11, o12, o13, o14, o15, o16, o17, o18] =
      .ok (.lst (vals (s.map fun i => .int i))) [some (penO q), some (mayO true (sizes.map fun i => .int i)), none, none, none, none, none, none, o8, o9, none, o11, o12, o13, o14, o15, o16, o17, o18] := by
  have k := mLc_rel (σ := Pen) (τ := Int) (υ := Int) (fun p => [some (penO p), some (mayO true (sizes.map fun i => .int i)), none, none, none, none, none, none, o8, o9, none, o11, o12, o13, o14, o15, o16, o17, o18]) (fun i => .int i) (fun i => .int i)
    (it := (mean (denT tab (n + 1)) (.seq (.var 1))).i) (ws := [10]) (tg := tgF [] (.name 10)) (cond := (mean (denT tab (n + 1)) .yes).b) (elt := fz (mean (denT tab (n + 1)) c__law_tied_2e).o)
    (fun rem q acc => rem = sizes.drop acc.length ∧ acc.length + rem.length = sizes.length ∧ q.at_ + rem.length ≤ p.at_ + sizes.length ∧ ∀ (j : Nat) (v m : Int), acc[j]? = some v → sizes[j]? = some m → 0 ≤ v ∧ v < m) sizes p
    (e := [some (penO p), some (mayO b (sizes.map fun i => .int i)), none, none, none, none, none, none, o8, o9, none, o11, o12, o13, o14, o15, o16, o17, o18]) (e0 := [some (penO p), some (mayO true (sizes.map fun i => .int i)), none, none, none, none, none, none, o8, o9, none, o11, o12, o13, o14, o15, o16, o17, o18])
    (by cases b <;> simp [mayO]) rfl (fun _ => rfl) rfl ⟨rfl, by simp, by omega, fun j v m h => by simp at h⟩ (by have := hz.2.1; omega) (fun p' t r acc ht hi => by
      obtain ⟨i1, i2, i3, i4⟩ := hi
      rw [List.length_cons] at i2 i3
      have ht2 := hz.2.2 t ht
      have hzl := hz.2.1
      obtain ⟨v, q, e, v0, v1, hq⟩ := den_draw H n p' t (by omega) (by omega) (by omega)
      refine ⟨_, [some (penO p'), some (mayO true (sizes.map fun i => .int i)), none, none, none, none, none, none, o8, o9, some (.val (.int t)), o11, o12, o13, o14, o15, o16, o17, o18], rfl, .inl ⟨v, q, [some (penO q), some (mayO true (sizes.map fun i => .int i)), none, none, none, none, none, none, o8, o9, some (.val (.int t)), o11, o12, o13, o14, o15, o16, o17, o18], ⟨drop_more i1, ?_, by omega, stand_more i4 i1 v0 v1⟩, rfl, ?_, rfl⟩⟩
      · rw [List.length_append, List.length_singleton]; omega
      · simp [c__law_tied_2e, e])
  obtain ⟨q, s, ⟨_, j2, j3, j4⟩, k⟩ := k
  rw [List.length_nil] at j2 j3
  refine ⟨q, s, ⟨by omega, j4⟩, by have := hz.2.1; omega, ?_⟩
  rw [c__law_tied_2, me_lc_o, k]
  rfl
def tdEnc (sizes : List Int) (s : Pen × Bool × List (List Int)) (y : Option O) : Env :=
  [some (penO s.1), some (mayO s.2.1 (sizes.map fun i => .int i)), none, none, none, none, none, none, some (.lst (vals (s.2.2.map wD))), y, none, none, none, none, none, none, none, none, none]
theorem td_stands (H : HasD tab) (n : Nat) (p : Pen) (b : Bool) (sizes : List Int) (hz : SizesOk sizes) (hp : p.at_ < 800000000000) :
    ∃ (q : Pen) (b' : Bool) (stands : List (List Int)) (y : Option O), Stands sizes stands ∧ stands ≠ [] ∧ q.at_ ≤ p.at_ + 500 ∧ (mean (denT tab (n + 1)) c__law_tied_1).s [some (penO p), some (mayO b (sizes.map fun i => .int i)), none, none, none, none, none, none, some (.lst []), none, none, none, none, none, none, none, none, none, none] = .ok .nx (tdEnc sizes (q, b', stands) y) := by
  obtain ⟨r, q, e, r0, r1, hq⟩ := den_draw H n p 2 (by omega) (by omega) (by omega)
  have hb : bigOk (2 + r) = true := bigOk_of (by omega) (by omega)
  have k := forGo_rel (σ := Pen × Bool × List (List Int)) (χ := Option O) (tdEnc sizes) (fun k : Nat => .int (k : Int)) (tg := tgF [] (.name 9)) (body := (mean (denT tab (n + 1)) c__law_tied_1b).s)
    (fun rem s => s.1.at_ + 60 * rem.length ≤ p.at_ + 1 + 60 * (2 + r).toNat ∧ s.2.2.length + rem.length = (2 + r).toNat ∧ ∀ st ∈ s.2.2, StandOk sizes st) (List.range (2 + r).toNat) (fun s y t rem ht hi => by
      obtain ⟨i1, i2, i3⟩ := hi
      rw [List.length_cons] at i1 i2
      obtain ⟨q2, st, h1, h2, h3⟩ := td_stand H n s.1 s.2.1 sizes hz none (some (.val (.int (t : Int)))) none none none none none none none none (by omega)
      refine ⟨(q2, true, s.2.2 ++ [st]), some (.val (.int (t : Int))), ⟨by dsimp only; omega, by dsimp only; rw [List.length_append, List.length_singleton]; omega, fun x hx => ?_⟩, _, rfl, .inl ?_⟩
      · rcases List.mem_append.mp hx with hx | hx
        · exact i3 x hx
        · rw [List.mem_singleton] at hx; subst hx; exact h1
      · have hl : (s.2.2.map wD).length < 16777216 := by rw [List.length_map]; omega
        unfold tdEnc
        dsimp only
        rw [List.map_append, List.map_singleton, wD]
        generalize s.2.2.map wD = S at *
        generalize st.map (fun x => PyData.int x) = W at *
        simp [c__law_tied_1b, h3, hl]) (q, b, []) none ⟨by rw [List.length_range]; dsimp only; omega, by rw [List.length_range]; dsimp only; simp, fun st hst => (by cases hst)⟩
  obtain ⟨s', y', ⟨j1, j2, j3⟩, k⟩ := k
  rw [List.length_nil] at j1 j2
  refine ⟨s'.1, s'.2.1, s'.2.2, y', ⟨by omega, j3⟩, (fun z => by rw [z] at j2; (simp at j2) <;> omega), by omega, ?_⟩
  rw [← k, c__law_tied_1, me_for_s, ev_sFor]
  simp [e, hb, rangeD_eq, tdEnc]
theorem den_great (H : HasD tab) (HG : HasG tab) (n : Nat) (p : Pen) (m : Int) (h1 : 1 ≤ m) (h2 : m ≤ 60) (hp : p.at_ < 400000000000) :
    ∃ (sizes : List Int) (q : Pen), denT tab (n + 3) "_law_great" [penO p, .val (.int m)] = .ok (mayO false (sizes.map fun i => .int i)) [some (penO q), some (.val (.int m))] ∧ SizesOk sizes ∧ q.at_ ≤ p.at_ + 60 := by
  rw [denT_at HG.great _ _ rfl]
  have hb : bigOk m = true := bigOk_of (by omega) (by omega)
  have k := mLc_rel (σ := Pen) (τ := Nat) (υ := Int) (fun p => [some (penO p), some (.val (.int m)), none, none, none, none, none, none, none]) (fun k : Nat => .int (k : Int)) (fun i => .int i)
    (it := (mean (denT tab (n + 2)) (.rng1 (.var 1))).i) (ws := [8]) (tg := tgF [] (.name 8)) (cond := (mean (denT tab (n + 2)) .yes).b) (elt := fz (mean (denT tab (n + 2)) c__law_great_1e).o)
    (fun rem q acc => acc.length + rem.length = m.toNat ∧ q.at_ + rem.length ≤ p.at_ + m.toNat ∧ ∀ v ∈ acc, 2 ≤ v ∧ v ≤ 4) (List.range m.toNat) p
    (e := [some (penO p), some (.val (.int m)), none, none, none, none, none, none, none]) (e0 := [some (penO p), some (.val (.int m)), none, none, none, none, none, none, none])
    (by simp [hb, rangeD_eq]) rfl (fun _ => rfl) rfl ⟨by simp, by rw [List.length_range]; omega, fun v h => by simp at h⟩ (by rw [List.length_range]; omega) (fun p' t r acc ht hi => by
      obtain ⟨i1, i2, i3⟩ := hi
      rw [List.length_cons] at i1 i2
      obtain ⟨d, q, e, hd, hq⟩ := den_pick H n p' [.int 2, .int 2, .int 2, .int 3, .int 4] (by simp) (by simp) (by omega)
      have hv : ∃ v : Int, d = .int v ∧ 2 ≤ v ∧ v ≤ 4 := by
        simp only [List.mem_cons, List.not_mem_nil, or_false] at hd
        rcases hd with rfl | rfl | rfl | rfl | rfl <;> exact ⟨_, rfl, by omega, by omega⟩
      obtain ⟨v, rfl, v1, v2⟩ := hv
      refine ⟨_, [some (penO p'), some (.val (.int m)), none, none, none, none, none, none, some (.val (.int (t : Int)))], rfl, .inl ⟨v, q, [some (penO q), some (.val (.int m)), none, none, none, none, none, none, some (.val (.int (t : Int)))], ⟨?_, by omega, fun x hx => ?_⟩, rfl, ?_, rfl⟩⟩
      · rw [List.length_append, List.length_singleton]; omega
      · rcases List.mem_append.mp hx with hx | hx
        · exact i3 x hx
        · rw [List.mem_singleton] at hx; subst hx; exact ⟨v1, v2⟩
      · simp [c__law_great_1e, e])
  obtain ⟨q, sizes, ⟨j1, j2, j3⟩, k⟩ := k
  rw [List.length_nil] at j1 j2
  refine ⟨sizes, q, ?_, ⟨by omega, by omega, j3⟩, by omega⟩
  have k2 : (mean (denT tab (n + 2)) c__law_great_1).o [some (penO p), some (.val (.int m)), none, none, none, none, none, none, none] = .ok (.lst (vals (sizes.map fun i => .int i))) [some (penO q), some (.val (.int m)), none, none, none, none, none, none, none] := by
    rw [c__law_great_1, me_lc_o, k]; rfl
  simp [f__law_great, c__law_great, k2, mayO]
end
section
variable {tab : List FE}
/-- the frame of _law_tied behind the stands -/
def tiEnc (sizes : List Int) (bs : Bool) (k : Nat) (o8 o11 : Option O) (words : List (List Int)) (s : Pen × List Gp) (y : Option O × Option O × Option O) : Env :=
  [some (penO s.1), some (mayO bs (sizes.map fun i => .int i)), none, none, none, none, none, none, o8, some (.val (.int (k : Int))), none, o11, some (.lst (vals (words.map wD))), some (.lst (vals (s.2.map gD))), none, y.1, y.2.1, none, y.2.2]
theorem ti_lot (H : HasD tab) (n : Nat) (sizes : List Int) (bs : Bool) (k : Nat) (m : Int) (hk : sizes[k]? = some m) (hm : 2 ≤ m ∧ m ≤ 4) (o8 o11 : Option O) (words : List (List Int)) (hwd : WordsOk words) (hne : words ≠ []) (p : Pen) (o13 o15 o16 o18 : Option O) (hp : p.at_ < 900000000000) :
    ∃ (q : Pen) (ws : List (List Int)), (∀ w ∈ ws, w ∈ words) ∧ ws.length ≤ (if m = 2 then 2 else 1) ∧ q.at_ ≤ p.at_ + 3 ∧
      (mean (denT tab (n + 2)) c__law_tied_6).o [some (penO p), some (mayO bs (sizes.map fun i => .int i)), none, none, none, none, none, none, o8, some (.val (.int (k : Int))), none, o11, some (.lst (vals (words.map wD))), o13, none, o15, o16, none, o18] =
      .ok (.lst (vals (ws.map wD))) [some (penO q), some (mayO bs (sizes.map fun i => .int i)), none, none, none, none, none, none, o8, some (.val (.int (k : Int))), none, o11, some (.lst (vals (words.map wD))), o13, none, o15, o16, none, o18] := by
  have ex : atI (sizes.map fun i => PyData.int i) (k : Int) = some (.int m) := by
    rw [atI_nat, List.getElem?_map, hk]; rfl
  have hwl : words.map wD ≠ [] := by simpa using hne
  have hwl2 : (words.map wD).length < 1073741824 := by rw [List.length_map]; have := hwd.1; omega
  -- how many
  have it : ∃ (c : Nat) (q0 : Pen), c ≤ (if m = 2 then 2 else 1) ∧ q0.at_ ≤ p.at_ + 1 ∧ (mean (denT tab (n + 2)) (.rng1 (.bin .Add (.cst (PyData.int (1))) (.bi .int (.cons (.andV (.ofB (.cmp .Eq (.sub 1 (.var 9)) (.cst (PyData.int (2))))) (.ofB (.cmp .Eq (.call "_law_draw" 2 (.cons (.argN 0) (.cons (.argV (.cst (PyData.int (2)))) .nil)) []) (.cst (PyData.int (0)))))) .nil))))).i
      [some (penO p), some (mayO bs (sizes.map fun i => .int i)), none, none, none, none, none, none, o8, some (.val (.int (k : Int))), none, o11, some (.lst (vals (words.map wD))), o13, none, o15, o16, none, o18] =
      .ok ((List.range c).map fun (j : Nat) => .int (j : Int)) [some (penO q0), some (mayO bs (sizes.map fun i => .int i)), none, none, none, none, none, none, o8, some (.val (.int (k : Int))), none, o11, some (.lst (vals (words.map wD))), o13, none, o15, o16, none, o18] := by
    by_cases c2 : m = 2
    · obtain ⟨v, q0, e, v0, v1, hq⟩ := den_draw H (n + 1) p 2 (by omega) (by omega) (by omega)
      by_cases cv : v = 0
      · refine ⟨2, q0, by rw [if_pos c2]; omega, hq, ?_⟩
        have b : bigOk 2 = true := by decide
        simp [ex, c2, e, cv, b, rangeD_eq]
      · refine ⟨1, q0, by rw [if_pos c2]; omega, hq, ?_⟩
        have b : bigOk 1 = true := by decide
        simp [ex, c2, e, cv, b, rangeD_eq]
    · refine ⟨1, p, by rw [if_neg c2]; omega, by omega, ?_⟩
      have b : bigOk 1 = true := by decide
      simp [ex, c2, b, rangeD_eq]
  obtain ⟨c, q0, hc, hq0, it⟩ := it
  have hc2 : c ≤ 2 := by split at hc <;> omega
  have kk := mLc_rel (σ := Pen) (τ := Nat) (υ := List Int) (fun p => [some (penO p), some (mayO bs (sizes.map fun i => .int i)), none, none, none, none, none, none, o8, some (.val (.int (k : Int))), none, o11, some (.lst (vals (words.map wD))), o13, none, o15, o16, none, o18]) (fun k : Nat => .int (k : Int)) wD
    (it := (mean (denT tab (n + 2)) (.rng1 (.bin .Add (.cst (PyData.int (1))) (.bi .int (.cons (.andV (.ofB (.cmp .Eq (.sub 1 (.var 9)) (.cst (PyData.int (2))))) (.ofB (.cmp .Eq (.call "_law_draw" 2 (.cons (.argN 0) (.cons (.argV (.cst (PyData.int (2)))) .nil)) []) (.cst (PyData.int (0)))))) .nil))))).i) (ws := [17]) (tg := tgF [] (.name 17)) (cond := (mean (denT tab (n + 2)) .yes).b) (elt := fz (mean (denT tab (n + 2)) c__law_tied_6e).o)
    (fun rem q acc => acc.length + rem.length = c ∧ q.at_ + rem.length ≤ q0.at_ + c ∧ ∀ w ∈ acc, w ∈ words) (List.range c) q0
    (e := [some (penO p), some (mayO bs (sizes.map fun i => .int i)), none, none, none, none, none, none, o8, some (.val (.int (k : Int))), none, o11, some (.lst (vals (words.map wD))), o13, none, o15, o16, none, o18]) (e0 := [some (penO q0), some (mayO bs (sizes.map fun i => .int i)), none, none, none, none, none, none, o8, some (.val (.int (k : Int))), none, o11, some (.lst (vals (words.map wD))), o13, none, o15, o16, none, o18])
    it rfl (fun _ => rfl) rfl ⟨by simp, by rw [List.length_range]; omega, fun v h => by simp at h⟩ (by rw [List.length_range]; omega) (fun p' t r acc ht hi => by
      obtain ⟨i1, i2, i3⟩ := hi
      rw [List.length_cons] at i1 i2
      obtain ⟨d, q, e, hd, hq⟩ := den_pick_own H n p' (words.map wD) hwl hwl2 (by omega)
      obtain ⟨w, hw, rfl⟩ := List.mem_map.mp hd
      refine ⟨_, [some (penO p'), some (mayO bs (sizes.map fun i => .int i)), none, none, none, none, none, none, o8, some (.val (.int (k : Int))), none, o11, some (.lst (vals (words.map wD))), o13, none, o15, o16, some (.val (.int (t : Int))), o18], rfl, .inl ⟨w, q, [some (penO q), some (mayO bs (sizes.map fun i => .int i)), none, none, none, none, none, none, o8, some (.val (.int (k : Int))), none, o11, some (.lst (vals (words.map wD))), o13, none, o15, o16, some (.val (.int (t : Int))), o18], ⟨?_, by omega, fun x hx => ?_⟩, rfl, ?_, rfl⟩⟩
      · rw [List.length_append, List.length_singleton]; omega
      · rcases List.mem_append.mp hx with hx | hx
        · exact i3 x hx
        · rw [List.mem_singleton] at hx; subst hx; exact hw
      · generalize words.map wD = W at *
        simp [c__law_tied_6e, e])
  obtain ⟨q, ws, ⟨j1, j2, j3⟩, kk⟩ := kk
  rw [List.length_nil] at j1 j2
  refine ⟨q, ws, j3, by omega, by omega, ?_⟩
  rw [c__law_tied_6, me_lc_o, kk]
  rfl
end
section
variable {tab : List FE}
theorem ti_step (H : HasD tab) (n : Nat) (sizes : List Int) (bs : Bool) (k : Nat) (m : Int) (hk : sizes[k]? = some m) (hm : 2 ≤ m ∧ m ≤ 4) (o8 o11 : Option O) (words : List (List Int)) (hwd : WordsOk words) (hne : words ≠ []) (s : Pen × List Gp) (x : Int) (y : Option O × Option O × Option O) (hp : s.1.at_ < 800000000000) (hl : s.2.length < 100) :
    ∃ (q : Pen) (price : Int) (lot : List (List Int)) (more : List Gp) (y' : Option O × Option O), q.at_ ≤ s.1.at_ + 20 ∧ (1 ≤ price ∧ price ≤ 1000000) ∧ Ris lot ∧ (∀ w ∈ lot, w ∈ words) ∧ lot.length ≤ (if m = 2 then 2 else 1) ∧ (more = [] ∨ ∃ price2, (1 ≤ price2 ∧ price2 ≤ 1000000) ∧ more = [⟨x + 1, x, price2, lot⟩]) ∧
      (mean (denT tab (n + 2)) c__law_tied_5b).s (tiEnc sizes bs k o8 o11 words s (some (.val (.int x)), y.2)) = .ok .nx (tiEnc sizes bs k o8 o11 words (q, s.2 ++ (⟨x, x + 1, price, lot⟩ :: more)) (some (.val (.int x)), y')) := by
  obtain ⟨p, gaps⟩ := s
  dsimp only at hp hl ⊢
  obtain ⟨q1, ws, w1, w2, w3, e1⟩ := ti_lot H n sizes bs k m hk hm o8 o11 words hwd hne p (some (.lst (vals (gaps.map gD)))) (some (.val (.int x))) y.2.1 y.2.2 (by omega)
  have w2' : ws.length ≤ 8 := by split at w2 <;> omega
  obtain ⟨v2, q2, e2, v20, v21, h2⟩ := den_draw H (n + 1) q1 9 (by omega) (by omega) (by omega)
  obtain ⟨d, q3, e3, hd, h3⟩ := den_pick H n q2 [.int 1, .int 2, .int (1 + v2), .int 1000000] (by simp) (by simp) (by omega)
  have hv : ∃ v : Int, d = .int v ∧ 1 ≤ v ∧ v ≤ 1000000 := by
    simp only [List.mem_cons, List.not_mem_nil, or_false] at hd
    rcases hd with rfl | rfl | rfl | rfl <;> exact ⟨_, rfl, by omega, by omega⟩
  obtain ⟨price, rfl, pr1, pr2⟩ := hv
  obtain ⟨v4, q4, e4, v40, v41, h4⟩ := den_draw H (n + 1) q3 8 (by omega) (by omega) (by omega)
  have ss := sortSet_wD ws (keys_ok hwd w1 w2')
  have rl : (setK ws).length ≤ ws.length := setK_len fun w hw => hw
  have eg : ∀ a b c, gD ⟨a, b, c, setK ws⟩ = .tuple [.int a, .int b, .int c, .tuple ((setK ws).map wD)] := fun _ _ _ => rfl
  have hgl : (gaps.map gD).length < 16777216 := by rw [List.length_map]; omega
  have hgl2 : (gaps.map gD).length + 1 < 16777216 := by rw [List.length_map]; omega
  by_cases c : 0 < v4
  · obtain ⟨v5, q5, e5, v50, v51, h5⟩ := den_draw H (n + 1) q4 3 (by omega) (by omega) (by omega)
    refine ⟨q5, price, setK ws, [⟨x + 1, x, 1 + v5, setK ws⟩], (some (.val (.list ((setK ws).map wD))), some (.val (.int price))), by omega, ⟨pr1, pr2⟩, ris_setK ws, fun w hw => w1 w ((mem_setK w ws).mp hw), by omega, .inr ⟨1 + v5, by omega, rfl⟩, ?_⟩
    unfold tiEnc
    dsimp only
    rw [List.map_append, List.map_cons, List.map_singleton, eg, eg]
    generalize (setK ws).map wD = ds1 at *
    generalize gaps.map gD = gs at *
    generalize words.map wD = W at *
    generalize ws.map wD = W2 at *
    simp [c__law_tied_5b, c__law_tied_t1, c__law_tied_a1, e1, ss, e2, e3, hgl, e4, c, e5, hgl2]
  · refine ⟨q4, price, setK ws, [], (some (.val (.list ((setK ws).map wD))), some (.val (.int price))), by omega, ⟨pr1, pr2⟩, ris_setK ws, fun w hw => w1 w ((mem_setK w ws).mp hw), by omega, .inl rfl, ?_⟩
    unfold tiEnc
    dsimp only
    rw [List.map_append, List.map_singleton, eg]
    generalize (setK ws).map wD = ds1 at *
    generalize gaps.map gD = gs at *
    generalize words.map wD = W at *
    generalize ws.map wD = W2 at *
    simp [c__law_tied_5b, c__law_tied_t1, e1, ss, e2, e3, hgl, e4, c]
/-- what the pairs of one bolt hold so far -/
def TI (m : Int) (words : List (List Int)) (gaps : List Gp) : Prop :=
  gaps.Pairwise (fun a b => pr a ≠ pr b) ∧ ∀ g ∈ gaps, ((0 ≤ g.here ∧ g.here < m) ∧ (0 ≤ g.there ∧ g.there < m) ∧ g.here ≠ g.there) ∧ (1 ≤ g.price ∧ g.price ≤ 1000000) ∧ Ris g.ways ∧ ∀ w ∈ g.ways, w ∈ words
theorem pr_ne {a b : Gp} (h : a.here ≠ b.here ∨ a.there ≠ b.there) : pr a ≠ pr b := fun e => by
  unfold pr at e
  simp at e
  omega
theorem ti_inner (H : HasD tab) (n : Nat) (sizes : List Int) (bs : Bool) (k : Nat) (m : Nat) (hk : sizes[k]? = some (m : Int)) (hm : 2 ≤ m ∧ m ≤ 4) (o8 o11 : Option O) (words : List (List Int)) (hwd : WordsOk words) (hne : words ≠ []) (p : Pen) (y : Option O × Option O × Option O) (hp : p.at_ < 700000000000) :
    ∃ (q : Pen) (gaps : List Gp) (y' : Option O × Option O × Option O), q.at_ ≤ p.at_ + 60 ∧ TI m words gaps ∧ (gaps.map fun g => g.ways.length).sum ≤ 8 ∧
      (mean (denT tab (n + 2)) c__law_tied_5).s (tiEnc sizes bs k o8 o11 words (p, []) y) = .ok .nx (tiEnc sizes bs k o8 o11 words (q, gaps) y') := by
  have kk := forGo_rel (σ := Pen × List Gp) (χ := Option O × Option O × Option O) (tiEnc sizes bs k o8 o11 words) (fun k : Nat => .int (k : Int)) (tg := tgF [] (.name 15)) (body := (mean (denT tab (n + 2)) c__law_tied_5b).s)
    (fun rem s => s.1.at_ + 20 * rem.length ≤ p.at_ + 20 * (m - 1) ∧ s.2.length + 2 * rem.length ≤ 2 * (m - 1) ∧ (s.2.map fun g => g.ways.length).sum + 2 * (if m = 2 then 2 else 1) * rem.length ≤ 2 * (if m = 2 then 2 else 1) * (m - 1) ∧ TI m words s.2 ∧ rem.Pairwise (· < ·) ∧ (∀ x ∈ rem, x < m - 1) ∧ ∀ g ∈ s.2, ∀ x ∈ rem, (g.there = g.here + 1 ∧ g.here < (x : Nat)) ∨ (g.here = g.there + 1 ∧ g.there < (x : Nat))) (List.range (m - 1)) (fun s y x rem ht i => by
      obtain ⟨i1, i2, i3, i4, i5, i6, i7⟩ := i
      rw [List.length_cons] at i1 i2 i3
      have i5' := List.pairwise_cons.mp i5
      have hx := i6 x List.mem_cons_self
      obtain ⟨q, price, lot, more, y', h1, h2, h3, h4, h5, h6, h7⟩ := ti_step H n sizes bs k m hk (by omega) o8 o11 words hwd hne s x y (by omega) (by omega)
      have h5' : lot.length ≤ (if m = 2 then 2 else 1) := by
        have e : ((m : Int) = 2) ↔ m = 2 := by omega
        simpa only [e] using h5
      have g1 : ((0 ≤ (x : Int) ∧ (x : Int) < m) ∧ (0 ≤ (x : Int) + 1 ∧ (x : Int) + 1 < m) ∧ (x : Int) ≠ x + 1) := by omega
      have mono : (2 * (if m = 2 then 2 else 1)) * (rem.length + 1) = 2 * (if m = 2 then 2 else 1) * rem.length + 2 * (if m = 2 then 2 else 1) := by rw [Nat.mul_add, Nat.mul_one]
      rw [mono] at i3
      refine ⟨(q, s.2 ++ (⟨x, x + 1, price, lot⟩ :: more)), (some (.val (.int (x : Int))), y'), ?_, _, rfl, .inl h7⟩
      have old : ∀ a ∈ s.2, ∀ b : Gp, (b.here = x ∧ b.there = x + 1) ∨ (b.here = x + 1 ∧ b.there = x) → pr a ≠ pr b := fun a ha b hb => pr_ne (by
        rcases i7 a ha x List.mem_cons_self with h | h <;> omega)
      have next : ∀ z ∈ rem, x < z := i5'.1
      generalize (if m = 2 then 2 else 1) = cc at *
      rcases h6 with rfl | ⟨price2, hp2, rfl⟩
      · refine ⟨by dsimp only; omega, by dsimp only; rw [List.length_append, List.length_singleton]; omega, ?_, ⟨?_, fun g hg => ?_⟩, i5'.2, fun z hz => i6 z (List.mem_cons_of_mem _ hz), fun g hg z hz => ?_⟩
        · dsimp only
          rw [List.map_append, List.sum_append]
          simp
          omega
        · refine List.pairwise_append.mpr ⟨i4.1, List.pairwise_singleton _ _, fun a ha b hb => ?_⟩
          rw [List.mem_singleton] at hb; subst hb
          exact old a ha _ (.inl ⟨rfl, rfl⟩)
        · rcases List.mem_append.mp hg with hg | hg
          · exact i4.2 g hg
          · rw [List.mem_singleton] at hg; subst hg
            exact ⟨g1, h2, h3, h4⟩
        · have := next z hz
          rcases List.mem_append.mp hg with hg | hg
          · rcases i7 g hg x List.mem_cons_self with h | h <;> omega
          · rw [List.mem_singleton] at hg; subst hg
            exact .inl ⟨rfl, by dsimp only; omega⟩
      · refine ⟨by dsimp only; omega, by dsimp only; rw [List.length_append]; simp; omega, ?_, ⟨?_, fun g hg => ?_⟩, i5'.2, fun z hz => i6 z (List.mem_cons_of_mem _ hz), fun g hg z hz => ?_⟩
        · dsimp only
          rw [List.map_append, List.sum_append]
          simp
          omega
        · refine List.pairwise_append.mpr ⟨i4.1, List.pairwise_cons.mpr ⟨fun b hb => ?_, List.pairwise_singleton _ _⟩, fun a ha b hb => ?_⟩
          · rw [List.mem_singleton] at hb; subst hb
            exact pr_ne (.inl (by dsimp only; omega))
          · rcases List.mem_cons.mp hb with rfl | hb
            · exact old a ha _ (.inl ⟨rfl, rfl⟩)
            · rw [List.mem_singleton] at hb; subst hb
              exact old a ha _ (.inr ⟨rfl, rfl⟩)
        · rcases List.mem_append.mp hg with hg | hg
          · exact i4.2 g hg
          · rcases List.mem_cons.mp hg with rfl | hg
            · exact ⟨g1, h2, h3, h4⟩
            · rw [List.mem_singleton] at hg; subst hg
              exact ⟨⟨g1.2.1, g1.1, fun e => g1.2.2 e.symm⟩, hp2, h3, h4⟩
        · have := next z hz
          rcases List.mem_append.mp hg with hg | hg
          · rcases i7 g hg x List.mem_cons_self with h | h <;> omega
          · rcases List.mem_cons.mp hg with rfl | hg
            · exact .inl ⟨rfl, by dsimp only; omega⟩
            · rw [List.mem_singleton] at hg; subst hg
              exact .inr ⟨rfl, by dsimp only; omega⟩) (p, []) y ⟨by rw [List.length_range]; dsimp only; omega, by rw [List.length_range]; simp, by rw [List.length_range]; simp, ⟨List.Pairwise.nil, fun g hg => (by cases hg)⟩, List.pairwise_lt_range, fun x hx => List.mem_range.mp hx, fun g hg => (by cases hg)⟩
  obtain ⟨s', y', ⟨j1, j2, j3, j4, _⟩, kk⟩ := kk
  rw [List.length_nil] at j1 j2 j3
  refine ⟨s'.1, s'.2, y', by omega, j4, ?_, ?_⟩
  · by_cases q : m = 2
    · subst q; simp at j3; omega
    · rw [if_neg q] at j3; omega
  · have hb : bigOk ((m : Int) - 1) = true := bigOk_of (by omega) (by omega)
    have hx : ((m : Int) - 1).toNat = m - 1 := by omega
    have ex : atI (sizes.map fun i => PyData.int i) (k : Int) = some (.int (m : Int)) := by
      rw [atI_nat, List.getElem?_map, hk]; rfl
    rw [← kk, c__law_tied_5, me_for_s, ev_sFor]
    simp [tiEnc, ex, hb, hx, rangeD_eq]
end
section
variable {tab : List FE}
abbrev Y6 := Option O × Option O × Option O × Option O × Option O × Option O
def td3Enc (sizes : List Int) (stands : List (List Int)) (bs : Bool) (s : Pen × Bool × List Bt) (y : Y6) : Env :=
  [some (penO s.1), some (mayO bs (sizes.map fun i => .int i)), none, none, none, none, none, none, some (mayO s.2.1 (stands.map wD)), y.1, none, some (.lst (vals (s.2.2.map bD))), y.2.1, y.2.2.1, none, y.2.2.2.1, y.2.2.2.2.1, none, y.2.2.2.2.2]
theorem sorted_ok {m : Int} {k : Nat} {stands : List (List Int)} {gs : List Gp} (h : TI m (setK (stands.map (List.take k))) gs) (hs : (gs.map fun g => g.ways.length).sum ≤ 8) : GapsOk m k stands (sortG gs) := by
  refine ⟨?_, sortG_ris h.1, fun g hg => ?_⟩
  · rw [((sortG_perm gs).map fun g => g.ways.length).sum_nat]; exact hs
  · obtain ⟨h1, h2, h3, h4⟩ := h.2 g ((sortG_perm gs).mem_iff.mp hg)
    refine ⟨h1, h2, h3, fun w hw => ?_⟩
    obtain ⟨s, hs, e⟩ := List.mem_map.mp ((mem_setK w _).mp (h4 w hw))
    exact ⟨s, hs, e.symm⟩
theorem den_tied (H : HasD tab) (HG : HasG tab) (n : Nat) (p : Pen) (b : Bool) (sizes : List Int) (hz : SizesOk sizes) (hp : p.at_ < 400000000000) :
    ∃ (l : List Bt) (q : Pen) (stands : List (List Int)) (b' : Bool), denT tab (n + 3) "_law_tied" [penO p, mayO b (sizes.map fun i => .int i)] = .ok (.val (lD l)) [some (penO q), some (mayO b' (sizes.map fun i => .int i))] ∧ LockOk sizes stands l ∧ Stands sizes stands ∧ q.at_ ≤ p.at_ + 20000 := by
  rw [denT_at HG.tied _ _ rfl]
  obtain ⟨q0, b0, stands, y0, hs, hne, hq0, e0⟩ := td_stands H (n + 1) p b sizes hz (by omega)
  have hzl := hz.2.1
  have k := forGo_rel (σ := Pen × Bool × List Bt) (χ := Y6) (td3Enc sizes stands b0) (fun k : Nat => .int (k : Int)) (tg := tgF [] (.name 9)) (body := (mean (denT tab (n + 2)) c__law_tied_3b).s)
    (fun rem s => s.1.at_ + 60 * rem.length ≤ q0.at_ + 60 * sizes.length ∧ s.2.2.length + rem.length = sizes.length ∧ rem = List.range' s.2.2.length rem.length ∧ ∀ (k : Nat) (b : Bt), s.2.2[k]? = some b → sizes[k]? = some b.many ∧ GapsOk b.many k stands b.gaps) (List.range sizes.length) (fun s y t rem ht hi => by
      obtain ⟨i1, i2, i3, i4⟩ := hi
      rw [List.length_cons] at i1 i2 i3
      rw [List.range'_succ] at i3
      obtain ⟨rfl, i3b⟩ := List.cons.inj i3
      have hk : s.2.2.length < sizes.length := by omega
      have hm := hz.2.2 sizes[s.2.2.length] (List.getElem_mem hk)
      have em : sizes[s.2.2.length] = ((sizes[s.2.2.length].toNat : Nat) : Int) := (Int.toNat_of_nonneg (by omega)).symm
      have hk2 : sizes[s.2.2.length]? = some ((sizes[s.2.2.length].toNat : Nat) : Int) := by rw [← em]; exact List.getElem?_eq_getElem hk
      have wok0 := words_ok hz hs (k := s.2.2.length) (by omega)
      have wok : WordsOk (setK (stands.map (List.take s.2.2.length))) := by
        refine ⟨?_, ?_⟩
        · have := setK_len (ks := stands.map (List.take s.2.2.length)) (L := stands.map (List.take s.2.2.length)) fun w hw => hw
          have := wok0.1
          omega
        · obtain ⟨_, kk, hk⟩ := wok0
          exact ⟨kk, fun w hw => hk w ((mem_setK w _).mp hw)⟩
      have wne : setK (stands.map (List.take s.2.2.length)) ≠ [] := fun z => by
        obtain ⟨st, r, e⟩ := List.exists_cons_of_ne_nil hne
        have : st.take s.2.2.length ∈ setK (stands.map (List.take s.2.2.length)) := (mem_setK _ _).mpr (List.mem_map.mpr ⟨st, by rw [e]; exact List.mem_cons_self, rfl⟩)
        rw [z] at this
        cases this
      obtain ⟨q, gaps, y', h1, h2, h3, h4⟩ := ti_inner H n sizes b0 s.2.2.length sizes[s.2.2.length].toNat hk2 (by omega) (some (mayO true (stands.map wD))) (some (.lst (vals (s.2.2.map bD)))) (setK (stands.map (List.take s.2.2.length))) wok wne s.1 (y.2.2.2.1, y.2.2.2.2.1, y.2.2.2.2.2) (by omega)
      rw [← em] at h2
      refine ⟨(q, true, s.2.2 ++ [⟨sizes[s.2.2.length], sortG gaps⟩]), (some (.val (.int (s.2.2.length : Int))), some (.lst (vals ((setK (stands.map (List.take s.2.2.length))).map wD))), some (.val (.list (gaps.map gD))), y'), ⟨by dsimp only; omega, by dsimp only; rw [List.length_append, List.length_singleton]; omega, by dsimp only; rw [List.length_append, List.length_singleton]; exact i3b, bolts_more i4 (List.getElem?_eq_getElem hk) (sorted_ok h2 h3)⟩, _, rfl, .inl ?_⟩
      have c4 : ∀ o12 o13 o15 o16 o18, (mean (denT tab (n + 2)) c__law_tied_4).o [some (penO s.1), some (mayO b0 (sizes.map fun i => .int i)), none, none, none, none, none, none, some (mayO s.2.1 (stands.map wD)), some (.val (.int (s.2.2.length : Int))), none, some (.lst (vals (s.2.2.map bD))), o12, o13, none, o15, o16, none, o18] =
          .ok (.lst (vals ((stands.map (List.take s.2.2.length)).map wD))) [some (penO s.1), some (mayO b0 (sizes.map fun i => .int i)), none, none, none, none, none, none, some (mayO true (stands.map wD)), some (.val (.int (s.2.2.length : Int))), none, some (.lst (vals (s.2.2.map bD))), o12, o13, none, o15, o16, none, o18] := fun o12 o13 o15 o16 o18 => by
        rw [c__law_tied_4, me_lc_o, List.map_map]
        refine mLc_pure wD (fun w => wD (w.take s.2.2.length)) stands (e0 := [some (penO s.1), some (mayO b0 (sizes.map fun i => .int i)), none, none, none, none, none, none, some (mayO true (stands.map wD)), some (.val (.int (s.2.2.length : Int))), none, some (.lst (vals (s.2.2.map bD))), o12, o13, none, o15, o16, none, o18]) ?_ rfl rfl rfl rfl (by have := hs.1; omega) fun w hw => ⟨_, rfl, rfl, rfl, ?_⟩
        · cases s.2.1 <;> simp [mayO]
        · have e : slR (wD w) none (some (s.2.2.length : Int)) = some (.val (wD (w.take s.2.2.length))) := by
            show some (Res.val (.tuple (cutD _ _ _))) = _
            rw [cut_to, wD, List.map_take]
          simp [c__law_tied_4e, e]
      have ss := sortSet_wD (stands.map (List.take s.2.2.length)) (keys_ok wok0 (fun w hw => hw) wok0.1)
      have ex : atI (sizes.map fun i => PyData.int i) (s.2.2.length : Int) = some (.int sizes[s.2.2.length]) := by
        rw [atI_nat, List.getElem?_map, List.getElem?_eq_getElem hk]; rfl
      have so := sortR_gaps gaps
      have hl : (s.2.2.map bD).length < 16777216 := by rw [List.length_map]; omega
      unfold tiEnc at h4
      unfold td3Enc
      dsimp only at h4 ⊢
      rw [List.map_nil, vals_nil] at h4
      rw [List.map_append, List.map_singleton, show bD ⟨sizes[s.2.2.length], sortG gaps⟩ = .tuple [.int sizes[s.2.2.length], .tuple ((sortG gaps).map gD)] from rfl]
      generalize (stands.map (List.take s.2.2.length)).map wD = W at *
      generalize (setK (stands.map (List.take s.2.2.length))).map wD = W2 at *
      generalize sizes[s.2.2.length] = m at *
      generalize s.2.2.map bD = S at *
      generalize gaps.map gD = gd at *
      generalize (sortG gaps).map gD = gd2 at *
      simp [c__law_tied_3b, c4, ss, h4, ex, so, hl]) (q0, false, []) (y0, none, none, none, none, none) ⟨by rw [List.length_range]; dsimp only; omega, by rw [List.length_range]; simp, by rw [List.length_range, List.range_eq_range']; rfl, fun k b h => by simp at h⟩
  obtain ⟨s', y', ⟨j1, j2, _, j4⟩, k⟩ := k
  rw [List.length_nil] at j1 j2
  have e3 : (mean (denT tab (n + 2)) c__law_tied_3).s (td3Enc sizes stands b0 (q0, false, []) (y0, none, none, none, none, none)) = .ok .nx (td3Enc sizes stands b0 s' y') := by
    have hb : bigOk (sizes.length : Int) = true := bigOk_of (by omega) (by omega)
    rw [← k, c__law_tied_3, me_for_s, ev_sFor]
    simp [hb, rangeD_eq, td3Enc]
  refine ⟨s'.2.2, s'.1, stands, b0, ?_, ⟨by omega, j4⟩, hs, by omega⟩
  have e3' : (mean (denT tab (n + 2)) c__law_tied_3).s [some (penO q0), some (mayO b0 (sizes.map fun i => .int i)), none, none, none, none, none, none, some (.lst (vals (stands.map wD))), y0, none, some (.lst []), none, none, none, none, none, none, none] = .ok .nx [some (penO s'.1), some (mayO b0 (sizes.map fun i => .int i)), none, none, none, none, none, none, some (mayO s'.2.1 (stands.map wD)), y'.1, none, some (.lst (vals (s'.2.2.map bD))), y'.2.1, y'.2.2.1, none, y'.2.2.2.1, y'.2.2.2.2.1, none, y'.2.2.2.2.2] := e3
  unfold tdEnc at e0
  dsimp only at e0
  unfold lD
  generalize s'.2.2.map bD = B at *
  generalize stands.map wD = S at *
  generalize sizes.map (fun i => PyData.int i) = Z at *
  simp [f__law_tied, c__law_tied, e0, e3']
end
end MP

set_option Elab.async false
set_option linter.all false
set_option maxRecDepth 100000
set_option maxHeartbeats 4000000
namespace MP
open PySem PySem.Spec PyProof.Rows L2
mutual
def slen : D → Nat
  | .none => 4
  | .bool _ => 5
  | .int i => (toString i : Str).length
  | .str x => (reprText x).length
  | .list xs => slens xs + 2
  | .tuple xs => slens xs + 3
  | .dict kvs => (PyData.shown (.dict kvs)).length
def slens : List D → Nat
  | [] => 0
  | x :: xs => slen x + 2 + slens xs
end
theorem textFrom_le : ∀ (ts : List Str) (k : Nat) (acc : Str), (textFrom k acc ts).length ≤ acc.length + (ts.map fun t => t.length + 2).sum
  | [], k, acc => by show acc.length ≤ _; simp
  | t :: r, k, acc => by
    have ih := textFrom_le r (k + 1) (acc ++ (if k > 0 then ", " else "" : String) ++ t)
    show (textFrom (k + 1) (acc ++ (if k > 0 then ", " else "" : String) ++ t) r).length ≤ _
    have e : (acc ++ (Str.ofString (if k > 0 then ", " else "")) ++ t).length ≤ acc.length + 2 + t.length := by
      rw [Str.length_append, Str.length_append]
      have : (Str.ofString (if k > 0 then ", " else "")).length ≤ 2 := by split <;> decide +kernel
      omega
    rw [List.map_cons, List.sum_cons]
    omega
mutual
theorem shown_le : ∀ d : D, (PyData.shown d).length ≤ slen d
  | .none => by decide +kernel
  | .bool b => by cases b <;> decide +kernel
  | .int i => Nat.le_refl _
  | .str x => Nat.le_refl _
  | .dict _ => Nat.le_refl _
  | .list xs => by
    have h := shownAll_le xs
    have h2 := textFrom_le (PyData.shownAll xs) 0 "["
    show (textFrom 0 "[" (PyData.shownAll xs) ++ ("]" : Str)).length ≤ slens xs + 2
    rw [Str.length_append]
    have e1 : (Str.ofString "[").length = 1 := by decide +kernel
    have e2 : (Str.ofString "]").length = 1 := by decide +kernel
    omega
  | .tuple xs => by
    have h := shownAll_le xs
    have h2 := StrLaws.join_length_le (", " : Str) (PyData.shownAll xs)
    have e0 : (Str.ofString ", ").length = 2 := by decide +kernel
    have e3 : ((PyData.shownAll xs).map (·.length)).sum + (PyData.shownAll xs).length * 2 = ((PyData.shownAll xs).map fun t => t.length + 2).sum := by
      generalize PyData.shownAll xs = ts
      induction ts with
      | nil => rfl
      | cons t r ih => rw [List.map_cons, List.sum_cons, List.map_cons, List.sum_cons, List.length_cons]; omega
    rw [e0] at h2
    show (("(" : Str) ++ Str.join ", " (PyData.shownAll xs) ++ ((if (PyData.shownAll xs).length == 1 then ",)" else ")" : String) : Str)).length ≤ slens xs + 3
    rw [Str.length_append, Str.length_append]
    have e1 : (Str.ofString "(").length = 1 := by decide +kernel
    have e2 : (Str.ofString (if (PyData.shownAll xs).length == 1 then ",)" else ")")).length ≤ 2 := by split <;> decide +kernel
    omega
theorem shownAll_le : ∀ ds : List D, ((PyData.shownAll ds).map fun t => t.length + 2).sum ≤ slens ds
  | [] => Nat.le_refl _
  | d :: ds => by
    have h1 := shown_le d
    have h2 := shownAll_le ds
    show (((PyData.shown d) :: PyData.shownAll ds).map fun t => t.length + 2).sum ≤ slen d + 2 + slens ds
    rw [List.map_cons, List.sum_cons]
    omega
end
theorem slens_le {k : Nat} : ∀ {ds : List D}, (∀ d ∈ ds, slen d ≤ k) → slens ds ≤ ds.length * (k + 2)
  | [], _ => Nat.zero_le _
  | d :: ds, h => by
    have h1 := h d List.mem_cons_self
    have h2 := slens_le (ds := ds) fun d hd => h d (List.mem_cons_of_mem _ hd)
    show slen d + 2 + slens ds ≤ _
    rw [List.length_cons, Nat.add_mul]
    omega
theorem slen_nat {i : Int} {k : Nat} (hk : 0 < k) (h0 : 0 ≤ i) (h : i < 10 ^ k) : slen (.int i) ≤ k := by
  show (toString i : Str).length ≤ k
  have e : (Str.ofString (toString i)) = T (nI i) := by
    have := nT_str i.toNat
    rwa [toNat_cast h0] at this
  rw [e, T_len]
  exact nI_len hk h0 h
theorem slens_map {α : Type} (f : α → D) (k : Nat) {l : List α} (h : ∀ x ∈ l, slen (f x) ≤ k) : slens (l.map f) ≤ l.length * (k + 2) := by
  have := slens_le (k := k) (ds := l.map f) fun d hd => by
    obtain ⟨x, hx, rfl⟩ := List.mem_map.mp hd
    exact h x hx
  rwa [List.length_map] at this
theorem slen_wD {w : List Int} (h : NiceW w) : slen (wD w) ≤ 200 := by
  show slens _ + 3 ≤ _
  have := slens_map (fun i : Int => (.int i : D)) 1 (l := w) fun i hi => slen_nat (by omega) (h.2 i hi).1 (by have := (h.2 i hi).2; omega)
  have := h.1
  omega
theorem slen_gD {g : Gp} (h : NiceG g) (hw : g.ways.length ≤ 8) : slen (gD g) ≤ 1800 := by
  show (slen (.int g.here) + 2 + (slen (.int g.there) + 2 + (slen (.int g.price) + 2 + (slens (g.ways.map wD) + 3 + 2 + 0)))) + 3 ≤ _
  have h1 := slen_nat (i := g.here) (k := 1) (by omega) h.1.1 (by have := h.1.2; omega)
  have h2 := slen_nat (i := g.there) (k := 1) (by omega) h.2.1.1 (by have := h.2.1.2; omega)
  have h3 := slen_nat (i := g.price) (k := 7) (by omega) h.2.2.1.1 (by have := h.2.2.1.2; omega)
  have h4 := slens_map wD 200 (l := g.ways) fun w hw => slen_wD (h.2.2.2 w hw)
  omega
theorem slen_bD {b : Bt} (h : NiceB b) : slen (bD b) ≤ 22000 := by
  show (slen (.int b.many) + 2 + (slens (b.gaps.map gD) + 3 + 2 + 0)) + 3 ≤ _
  have h1 := slen_nat (i := b.many) (k := 1) (by omega) h.1.1 (by have := h.1.2; omega)
  have h4 := slens_map gD 1800 (l := b.gaps) fun g hg => slen_gD (h.2.2.2 g hg) (by
    have : g.ways.length ≤ (b.gaps.map fun g => g.ways.length).sum := le_sum (fun g : Gp => g.ways.length) hg
    have := h.2.2.1
    omega)
  have := h.2.1
  omega
theorem slen_lD {l : List Bt} (h : Nice l) : slen (lD l) ≤ 1400000 := by
  show slens _ + 3 ≤ _
  have h4 := slens_map bD 22000 (l := l) fun b hb => slen_bD (h.2 b hb)
  have := h.1
  omega
/-- what can be shown: no dict, numbers not too great -/
theorem showable_all {ds : List D} (h : ∀ d ∈ ds, d.showable = true ∧ d.hasDict = false) : PyData.showableAll ds = true ∧ PyData.hasDictAll ds = false := by
  induction ds with
  | nil => exact ⟨rfl, rfl⟩
  | cons d ds ih =>
    obtain ⟨h1, h2⟩ := h d List.mem_cons_self
    obtain ⟨h3, h4⟩ := ih fun d hd => h d (List.mem_cons_of_mem _ hd)
    exact ⟨by show (_ && _) = true; rw [h1, h3]; rfl, by show (_ || _) = false; rw [h2, h4]; rfl⟩
def Shw (d : D) : Prop := d.showable = true ∧ d.hasDict = false
theorem Shw.int {i : Int} (h0 : 0 ≤ i) (h : i < 10000000) : Shw (.int i) := by
  refine ⟨?_, rfl⟩
  have := small_of (toNat_small h0 h)
  rw [toNat_cast h0] at this
  exact this
theorem Shw.list {ds : List D} (h : ∀ d ∈ ds, Shw d) : Shw (.list ds) := showable_all h
theorem Shw.tuple {ds : List D} (h : ∀ d ∈ ds, Shw d) : Shw (.tuple ds) := showable_all h
theorem Shw.map {α : Type} (f : α → D) {l : List α} (h : ∀ x ∈ l, Shw (f x)) : ∀ d ∈ l.map f, Shw d := fun d hd => by
  obtain ⟨x, hx, rfl⟩ := List.mem_map.mp hd
  exact h x hx
theorem shw_lD {l : List Bt} (h : Nice l) : Shw (lD l) := Shw.tuple (Shw.map bD fun b hb => by
  have hb := h.2 b hb
  refine Shw.tuple fun d hd => ?_
  simp only [List.mem_cons, List.not_mem_nil, or_false] at hd
  rcases hd with rfl | rfl
  · exact Shw.int hb.1.1 (by have := hb.1.2; omega)
  · refine Shw.tuple (Shw.map gD fun g hg => ?_)
    have hg := hb.2.2.2 g hg
    refine Shw.tuple fun d hd => ?_
    simp only [List.mem_cons, List.not_mem_nil, or_false] at hd
    rcases hd with rfl | rfl | rfl | rfl
    · exact Shw.int hg.1.1 (by have := hg.1.2; omega)
    · exact Shw.int hg.2.1.1 (by have := hg.2.1.2; omega)
    · exact Shw.int hg.2.2.1.1 (by have := hg.2.2.1.2; omega)
    · exact Shw.tuple (Shw.map wD fun w hw => Shw.tuple (Shw.map _ fun i hi => Shw.int ((hg.2.2.2 w hw).2 i hi).1 (by have := ((hg.2.2.2 w hw).2 i hi).2; omega))))
theorem lay_lD (l : List Bt) : Lay 7 (lD l) := Lay.tuple fun d hd => by
  obtain ⟨b, _, rfl⟩ := List.mem_map.mp hd
  refine Lay.tuple fun d hd => ?_
  simp only [List.mem_cons, List.not_mem_nil, or_false] at hd
  rcases hd with rfl | rfl
  · exact Lay.atom rfl 5
  · refine Lay.tuple fun d hd => ?_
    obtain ⟨g, _, rfl⟩ := List.mem_map.mp hd
    refine Lay.tuple fun d hd => ?_
    simp only [List.mem_cons, List.not_mem_nil, or_false] at hd
    rcases hd with rfl | rfl | rfl | rfl
    · exact Lay.atom rfl 3
    · exact Lay.atom rfl 3
    · exact Lay.atom rfl 3
    · exact Lay.tuple fun d hd => by
        obtain ⟨w, _, rfl⟩ := List.mem_map.mp hd
        exact (lay_wD w).mono (by omega)
theorem repr_ok {d : D} {k : Nat} (h1 : Shw d) (h2 : Lay k d) (hk : k ≤ 40) (h3 : slen d ≤ 16000000) : reprOk d = true := by
  unfold reprOk
  rw [h1.1, h1.2, decide_eq_true (by have := h2.2; omega : d.depth ≤ 40), decide_eq_true (Nat.le_trans (shown_le d) (Nat.le_trans h3 (by decide)) : d.shown.length ≤ sizeLine)]
  rfl
theorem repr_lD {l : List Bt} (h : Nice l) : ∃ z, reprR (lD l) = some (.val (.str z)) :=
  ⟨_, if_pos (repr_ok (d := lD l) (shw_lD h) (lay_lD l) (by omega) (by have := slen_lD h; omega))⟩
structure HasL (tab : List FE) : Prop where
  W : HasW tab
  T : HasT tab
  R : HasR tab
  S : HasLS tab
  D : HasD tab
  G : HasG tab
  pen : At tab "_law_pen" f__law_pen
  fault : At tab "_law_fault" f__law_fault
  show_lock : At tab "show_lock" f_show_lock
  must_be_lock : At tab "must_be_lock" f_must_be_lock
  law : At tab "law" f_law
section
variable {tab : List FE}
theorem den_pen (H : HasL tab) (n : Nat) (ns : List Int) (h : ns.length ≤ 63) : denT tab (n + 1) "_law_pen" [.val (.list (ns.map PyData.int))] = .ok (penO ⟨ns, 0, 0, h⟩) [some (.val (.list (ns.map PyData.int)))] := by
  rw [denT_at H.pen _ _ rfl]
  have e : cutD (ns.map PyData.int) none (some 63) = ns.map PyData.int := by
    have := cut_to (ns.map PyData.int) 63
    rw [List.take_of_length_le (by rw [List.length_map]; exact h)] at this
    exact this
  generalize hds : ns.map PyData.int = ds at *
  simp [f__law_pen, c__law_pen, e, penO]
  exact hds.symm
theorem den_fault_ok (H : HasL tab) (n : Nat) (d : D) (z : D) (h : denT tab n "show_lock" [.val d] = .ok (.val z) [some (.val d)]) : denT tab (n + 1) "_law_fault" [.val d] = .ok (.val .none) [some (.val d)] := by
  rw [denT_at H.fault _ _ rfl]
  simp [f__law_fault, c__law_fault, h]
theorem den_fault_bad (H : HasL tab) (n : Nat) (d f : D) (h : denT tab n "show_lock" [.val d] = .exc ⟨"NoLock", some f⟩ [some (.val d)]) : denT tab (n + 1) "_law_fault" [.val d] = .ok (.val f) [some (.val d)] := by
  rw [denT_at H.fault _ _ rfl]
  simp [f__law_fault, c__law_fault, h, tryB]
def badL (l : List Bt) (k : Nat) (b : Bt) : List Bt := l.take k ++ (⟨b.many, b.gaps ++ [⟨0, 0, 1, []⟩]⟩ :: l.drop (k + 1))
theorem bad_fault {sizes : List Int} {stands : List (List Int)} {l : List Bt} (h : LockOk sizes stands l) (hz : SizesOk sizes) (hs : Stands sizes stands) {k : Nat} {b : Bt} (hk : l[k]? = some b) : firstBad (badL l k b) = .inr k ∧ (badL l k b).length = l.length := by
  have hkl : k < l.length := (List.getElem?_eq_some_iff.mp hk).1
  have hlen : (l.take k).length = k := by rw [List.length_take]; omega
  refine ⟨firstBad_at (b := ⟨b.many, b.gaps ++ [⟨0, 0, 1, []⟩]⟩) ?_ ?_ fun j c hj hc => ?_, ?_⟩
  · unfold badL
    rw [List.getElem?_append_right (by omega), hlen, Nat.sub_self]
    rfl
  · have e : (badL l k b).take k = l.take k := by
      unfold badL
      rw [List.take_append_of_le_length (by omega), List.take_take, Nat.min_self]
    rw [e]
    unfold okB
    have : (b.gaps ++ [(⟨0, 0, 1, []⟩ : Gp)]).all (okG (l.take k) b.many) = false := by
      rw [List.all_append]
      have : okG (l.take k) b.many ⟨0, 0, 1, []⟩ = false := by simp [okG]
      simp [this]
    dsimp only
    rw [this]
    simp
  · have e : (badL l k b)[j]? = l[j]? := by
      unfold badL
      rw [List.getElem?_append_left (by omega), List.getElem?_take, if_pos hj]
    have e2 : (badL l k b).take j = l.take j := by
      unfold badL
      rw [List.take_append_of_le_length (by omega), List.take_take, Nat.min_eq_left (by omega)]
    rw [e] at hc
    rw [e2]
    exact bolt_ok h hz hs hc
  · unfold badL
    rw [List.length_append, hlen, List.length_cons, List.length_drop]
    omega
theorem bad_fit {l : List Bt} (h : Nice l) {k : Nat} {b : Bt} (hk : l[k]? = some b) : FitL (badL l k b) := fun c hc => by
  rcases List.mem_append.mp hc with hc | hc
  · exact fit_nice h c (List.mem_of_mem_take hc)
  · rcases List.mem_cons.mp hc with rfl | hc
    · obtain ⟨⟨f1, f2⟩, f3⟩ := fit_nice h b (List.mem_of_getElem? hk)
      have hb := h.2 b (List.mem_of_getElem? hk)
      refine ⟨⟨?_, fun g hg => ?_⟩, ?_⟩
      · rw [List.length_append, List.length_singleton]; have := hb.2.1; omega
      · rcases List.mem_append.mp hg with hg | hg
        · exact f2 g hg
        · rw [List.mem_singleton] at hg; subst hg
          exact ⟨by simp, fun w hw => by cases hw⟩
      · rw [List.map_append, List.sum_append]
        simp
        have := hb.2.2.1
        omega
    · exact fit_nice h c (List.mem_of_mem_drop hc)
abbrev Y8 := Option O × Option O × Option O × Option O × Option O × Option O × Option O × Option O
def lawEnc (x : D) (p : Pen) (t : Option O) (y : Y8) : Env :=
  [some (.val x), none, none, none, none, none, none, none, some (penO p), t, y.1, y.2.1, y.2.2.1, y.2.2.2.1, y.2.2.2.2.1, y.2.2.2.2.2.1, y.2.2.2.2.2.2.1, y.2.2.2.2.2.2.2]
theorem argO_may (i : Nat) (ds : List D) (e : Env) : argO i (some (some (mayO false ds))) e = .ok (.lend i) e := (rfl)
/-- the lock of a turn -/
theorem law_lock (H : HasL tab) (n : Nat) (x : D) (p : Pen) (t : Nat) (y : Y8) (hp : p.at_ < 90000000000) :
    ∃ (l : List Bt) (q : Pen) (sizes : List Int) (stands : List (List Int)) (o10 : Option O), LockOk sizes stands l ∧ SizesOk sizes ∧ Stands sizes stands ∧ q.at_ ≤ p.at_ + 21000 ∧
      (mean (denT tab (n + 11)) c_law_i1).s (lawEnc x p (some (.val (.int (t : Int)))) y) = .ok .nx (lawEnc x q (some (.val (.int (t : Int)))) (o10, some (.val (lD l)), y.2.2)) := by
  by_cases c : t < 8
  · have c' : ((t : Int) < 8) := by omega
    obtain ⟨sizes, q1, e1, hz, _, h1⟩ := den_sizes H.D H.G (n + 8) p (by omega)
    obtain ⟨l, q2, stands, b', e2, h2, h3, h4⟩ := den_lock H.D H.G (n + 7) q1 true sizes hz (by omega)
    refine ⟨l, q2, sizes, stands, some (.val (.list (sizes.map fun i => .int i))), h2, hz, h3, by omega, ?_⟩
    rw [mayO_true] at e2
    unfold lawEnc
    generalize sizes.map (fun i => PyData.int i) = Z at *
    generalize lD l = L at *
    simp [c_law_i1, c', e1, e2]
  · have c' : ¬ ((t : Int) < 8) := by omega
    obtain ⟨r, q0, e0, r0, r1, h0⟩ := den_draw H.D (n + 10) p 51 (by omega) (by omega) (by omega)
    obtain ⟨sizes, q1, e1, hz, h1⟩ := den_great H.D H.G (n + 8) q0 (10 + r) (by omega) (by omega) (by omega)
    obtain ⟨l, q2, stands, b', e2, h2, h3, h4⟩ := den_tied H.D H.G (n + 8) q1 false sizes hz (by omega)
    refine ⟨l, q2, sizes, stands, some (mayO b' (sizes.map fun i => .int i)), h2, hz, h3, by omega, ?_⟩
    unfold lawEnc
    generalize sizes.map (fun i => PyData.int i) = Z at *
    generalize lD l = L at *
    simp [c_law_i1, c', e0, e1, argO_may, e2]
/-- what was read, written again -/
theorem law_same (H : HasL tab) (n : Nat) (e : Env) (l : List Bt) (sizes : List Int) (stands : List (List Int)) (h : LockOk sizes stands l) (hz : SizesOk sizes) (hs : Stands sizes stands) (h11 : e[11]? = some (some (.val (lD l)))) (h12 : e[12]? = some (some (.val (strD (showL l))))) :
    (mean (denT tab (n + 11)) c_law_i2).s e = .ok .nx e := by
  obtain ⟨g1, g2⟩ := lock_good h hz hs
  have nice := lock_nice h hz hs
  have len : l.length ≤ 60 := nice.1
  have ne : l ≠ [] := fun z => by have := hz.1; rw [← h.1, z] at this; simp at this
  have fo := den_fault_of H.W (n + 3) l (by omega) (fit_nice nice) fun _ _ _ => g2
  rw [g1] at fo
  have e1 := den_show_lock H.T H.show_lock H.must_be_lock (n + 8) l nice fo
  have rd := read_show nice ne
  have e2 := den_read_lock H.W H.T H.R (n + 3) (showL l) (by have := showL_len nice; omega) (fun s hs _ _ _ => by rw [rd] at hs; cases hs; exact g2)
  have e2' : readO (showL l) = .ok (.val (lD l)) [some (.val (strD (showL l)))] := by
    unfold readO
    rw [rd]
    dsimp only
    rw [g1]
    rfl
  rw [e2', show PyData.str (T (showL l)) = strD (showL l) from rfl] at e2
  obtain ⟨z, e3⟩ := repr_lD nice
  have e4 : eqR (strD (showL l)) (strD (showL l)) = some true := by simp [strD]
  generalize strD (showL l) = S at *
  generalize lD l = L at *
  simp [c_law_i2, h11, h12, e1, e2, e3, e4]
def toldD (k : Nat) : D := .list [.tuple [.str "bolt", .int (k : Int)], .tuple [.str "lock"], .tuple [.str "lock"], .none]
theorem repr_told (k : Nat) (hk : k < 60) : ∃ z, reprR (toldD k) = some (.val (.str z)) := by
  have s1 : Shw (toldD k) := Shw.list fun d hd => by
    simp only [List.mem_cons, List.not_mem_nil, or_false] at hd
    rcases hd with rfl | rfl | rfl | rfl
    · refine Shw.tuple fun d hd => ?_
      simp only [List.mem_cons, List.not_mem_nil, or_false] at hd
      rcases hd with rfl | rfl
      · exact ⟨rfl, rfl⟩
      · exact Shw.int (by omega) (by omega)
    · exact ⟨rfl, rfl⟩
    · exact ⟨rfl, rfl⟩
    · exact ⟨rfl, rfl⟩
  have s2 : Lay 2 (toldD k) := Lay.list fun d hd => by
    simp only [List.mem_cons, List.not_mem_nil, or_false] at hd
    rcases hd with rfl | rfl | rfl | rfl
    · refine Lay.tuple fun d hd => ?_
      simp only [List.mem_cons, List.not_mem_nil, or_false] at hd
      rcases hd with rfl | rfl
      · exact Lay.atom (by decide +kernel) 0
      · exact Lay.atom rfl 0
    · exact Lay.tuple fun d hd => by
        rw [List.mem_singleton] at hd; subst hd
        exact Lay.atom (by decide +kernel) 0
    · exact Lay.tuple fun d hd => by
        rw [List.mem_singleton] at hd; subst hd
        exact Lay.atom (by decide +kernel) 0
    · exact Lay.atom rfl 1
  have s3 : slen (toldD k) ≤ 16000000 := by
    have h1 := slen_nat (i := (k : Int)) (k := 2) (by omega) (by omega) (by omega)
    have h2 : (reprText (Str.ofString "bolt")).length ≤ 10 := by decide +kernel
    have h3 : (reprText (Str.ofString "lock")).length ≤ 10 := by decide +kernel
    show ((((reprText (Str.ofString "bolt")).length + 2 + (slen (.int (k : Int)) + 2 + 0)) + 3) + 2 + ((((reprText (Str.ofString "lock")).length + 2 + 0) + 3) + 2 + ((((reprText (Str.ofString "lock")).length + 2 + 0) + 3) + 2 + (4 + 2 + 0)))) + 2 ≤ _
    omega
  exact ⟨_, if_pos (repr_ok (d := toldD k) s1 s2 (by omega) s3)⟩
theorem law_turn (H : HasL tab) (n : Nat) (x : D) (p : Pen) (t : Nat) (y : Y8) (hp : p.at_ < 90000000000) :
    ∃ (q : Pen) (y' : Y8), q.at_ ≤ p.at_ + 22000 ∧ (mean (denT tab (n + 11)) c_law_1b).s (lawEnc x p (some (.val (.int (t : Int)))) y) = .ok .nx (lawEnc x q (some (.val (.int (t : Int)))) y') := by
  obtain ⟨l, q1, sizes, stands, o10, h, hz, hs, hq1, e1⟩ := law_lock H n x p t y hp
  obtain ⟨g1, g2⟩ := lock_good h hz hs
  have nice := lock_nice h hz hs
  have len : l.length ≤ 60 := nice.1
  have len1 : 1 ≤ l.length := by rw [h.1]; exact hz.1
  have e2 := den_law_show_lock H.S (n + 9) l nice
  have e3 := fun e h11 h12 => law_same H n e l sizes stands h hz hs h11 h12
  obtain ⟨r, q2, e4, r0, r1, h4⟩ := den_draw H.D (n + 10) q1 l.length (by omega) (by omega) (by omega)
  have er : r = ((r.toNat : Nat) : Int) := (Int.toNat_of_nonneg r0).symm
  have hk : r.toNat < l.length := by omega
  have hb := List.getElem?_eq_getElem hk
  generalize hkk : r.toNat = k at *
  subst er
  generalize hbb : l[k] = b at *
  -- the faults
  have fo := den_fault_of H.W (n + 3) l (by omega) (fit_nice nice) fun _ _ _ => g2
  rw [g1] at fo
  have f4 := den_fault_ok H (n + 10) (lD l) _ (den_show_lock H.T H.show_lock H.must_be_lock (n + 7) l nice (by
    have := den_fault_of H.W (n + 2) l (by omega) (fit_nice nice) fun _ _ _ => g2
    rw [g1] at this
    exact this))
  obtain ⟨b1, b2⟩ := bad_fault h hz hs hb
  have fb := den_fault_of H.W (n + 2) (badL l k b) (by omega) (bad_fit nice hb) fun _ _ z => by rw [b1] at z; cases z
  have fbD : faultD (badL l k b) = .tuple [.str "bolt", .int (k : Int)] := by
    unfold faultD
    rw [if_pos (by omega), b1]
  rw [fbD] at fb
  have f1 := den_fault_bad H (n + 10) (lD (badL l k b)) _ (den_show_bad H.show_lock H.must_be_lock (n + 8) _ _ rfl fb)
  have fe := den_fault_of H.W (n + 2) [] (by simp) (fun b hb => by cases hb) fun z => by simp at z
  rw [show faultD [] = .tuple [.str "lock"] from rfl] at fe
  have f2 := den_fault_bad H (n + 10) (lD []) _ (den_show_bad H.show_lock H.must_be_lock (n + 8) _ _ rfl fe)
  have fl := den_fault_of_list H.W (n + 6) (l.map bD)
  have f3 := den_fault_bad H (n + 10) (.list (l.map bD)) _ (den_show_bad H.show_lock H.must_be_lock (n + 8) _ _ rfl fl)
  obtain ⟨z, rp⟩ := repr_told k (by omega)
  have s0 : lenR [lD l] = some (.val (.int l.length)) := by simp [lD]
  have sx : ixR (lD l) (.int (k : Int)) = some (bD b) := by
    show atI (l.map bD) (k : Int) = _
    rw [atI_nat, List.getElem?_map, hb]; rfl
  have st : ∀ is e, tgF [] (.tup is) (bD b) e = setAll [] is [.int b.many, .tuple (b.gaps.map gD)] e := fun _ _ => rfl
  have s1 : slR (lD l) none (some (k : Int)) = some (.val (.tuple ((l.take k).map bD))) := by
    show some (Res.val (.tuple (cutD _ _ _))) = _
    rw [cut_to, List.map_take]
  have s2 : slR (lD l) (some ((k : Int) + 1)) none = some (.val (.tuple ((l.drop (k + 1)).map bD))) := by
    show some (Res.val (.tuple (cutD _ _ _))) = _
    rw [show ((k : Int) + 1) = ((k + 1 : Nat) : Int) by omega, cut_from, List.map_drop]
  have nb := nice.2 b (List.mem_of_getElem? hb)
  have a0 : binR .Add (.tuple (b.gaps.map gD)) (.tuple [.tuple [.int 0, .int 0, .int 1, .tuple []]]) = some (.val (.tuple ((b.gaps ++ [(⟨0, 0, 1, []⟩ : Gp)]).map gD))) := by
    rw [bin_tup _ _ (by rw [List.length_map]; have := nb.2.1; simp; omega), List.map_append]; rfl
  have a1 : binR .Add (.tuple ((l.take k).map bD)) (.tuple [.tuple [.int b.many, .tuple ((b.gaps ++ [(⟨0, 0, 1, []⟩ : Gp)]).map gD)]]) = some (.val (.tuple ((l.take k ++ [(⟨b.many, b.gaps ++ [⟨0, 0, 1, []⟩]⟩ : Bt)]).map bD))) := by
    rw [bin_tup _ _ (by rw [List.length_map, List.length_take]; simp; omega), List.map_append (f := bD)]; rfl
  have a2 : binR .Add (.tuple ((l.take k ++ [(⟨b.many, b.gaps ++ [⟨0, 0, 1, []⟩]⟩ : Bt)]).map bD)) (.tuple ((l.drop (k + 1)).map bD)) = some (.val (lD (badL l k b))) := by
    rw [bin_tup _ _ (by rw [List.length_map, List.length_map, List.length_append, List.length_take, List.length_drop, List.length_singleton]; omega), ← List.map_append]
    unfold badL lD
    rw [List.append_assoc]; rfl
  have ll : listR [lD l] = some (.new (l.map bD)) := rfl
  have f2' : denT tab (n + 11) "_law_fault" [.val (.tuple [])] = .ok (.val (.tuple [.str "lock"])) [some (.val (.tuple []))] := f2
  have rp' : reprR (.list [.tuple [.str "bolt", .int (k : Int)], .tuple [.str "lock"], .tuple [.str "lock"], .none]) = some (.val (.str z)) := rp
  have e3' := e3 [some (.val x), none, none, none, none, none, none, none, some (penO q1), some (.val (.int (t : Int))), o10, some (.val (lD l)), some (.val (strD (showL l))), y.2.2.2.1, y.2.2.2.2.1, y.2.2.2.2.2.1, y.2.2.2.2.2.2.1, y.2.2.2.2.2.2.2] rfl rfl
  refine ⟨q2, (o10, some (.val (lD l)), some (.val (strD (showL l))), some (.val (.int (k : Int))), some (.val (.int b.many)), some (.val (.tuple (b.gaps.map gD))), some (.val (lD (badL l k b))), some (.val (.list [.tuple [.str "bolt", .int (k : Int)], .tuple [.str "lock"], .tuple [.str "lock"], .none]))), by omega, ?_⟩
  unfold lawEnc at e1 ⊢
  dsimp only at e1 ⊢
  generalize strD (showL l) = S at *
  generalize lD (badL l k b) = BAD at *
  generalize (b.gaps ++ [(⟨0, 0, 1, []⟩ : Gp)]).map gD = G2 at *
  generalize b.gaps.map gD = G1 at *
  generalize (l.take k ++ [(⟨b.many, b.gaps ++ [⟨0, 0, 1, []⟩]⟩ : Bt)]).map bD = M3 at *
  generalize (l.take k).map bD = M1 at *
  generalize (l.drop (k + 1)).map bD = M2 at *
  generalize l.map bD = M0 at *
  generalize lD l = L at *
  generalize bD b = B at *
  simp only [lit_bolt] at f1 rp'
  simp [c_law_1b, c_law_i3, e1, e2, e3', e4, s0, sx, st, s1, s2, a0, a1, a2, f1, f2', f3, f4, ll, rp']
theorem law_all (H : HasL tab) (n : Nat) (ns : List Int) (h : ns.length ≤ 63) : ∃ fin, denT tab (n + 12) "law" [.val (.list (ns.map PyData.int))] = .ok (.val (.bool true)) fin := by
  rw [denT_at H.law _ _ rfl]
  have e0 := den_pen H (n + 10) ns h
  generalize hx : PyData.list (ns.map PyData.int) = x at *
  have k := forGo_rel (σ := Pen) (χ := Option O × Y8) (fun p y => lawEnc x p y.1 y.2) (fun k : Nat => .int (k : Int)) (tg := tgF [] (.name 9)) (body := (mean (denT tab (n + 11)) c_law_1b).s)
    (fun rem p => p.at_ + 22000 * rem.length ≤ 220000) (List.range 10) (fun p y t r ht hi => by
      rw [List.length_cons] at hi
      obtain ⟨q, y', h1, h2⟩ := law_turn H n x p t y.2 (by omega)
      exact ⟨q, (some (.val (.int (t : Int))), y'), by omega, _, rfl, .inl h2⟩) ⟨ns, 0, 0, h⟩ (none, none, none, none, none, none, none, none, none) (by simp)
  obtain ⟨q, y', _, k⟩ := k
  have e1 : (mean (denT tab (n + 11)) c_law_1).s [some (.val x), none, none, none, none, none, none, none, some (penO ⟨ns, 0, 0, h⟩), none, none, none, none, none, none, none, none, none] = .ok .nx (lawEnc x q y'.1 y'.2) := by
    have b : bigOk 10 = true := by decide
    rw [← k, c_law_1, me_for_s, ev_sFor]
    simp [b, rangeD_eq, lawEnc]
  unfold lawEnc at e1
  simp [f_law, c_law, e0, e1]
end
end MP

set_option Elab.async false
set_option linter.all false
set_option maxRecDepth 100000
set_option maxHeartbeats 0
namespace MP
namespace K83
open PySem PySem.Spec PyProof.Rows L2
def top (i : Nat) : Stmt := PySem.Challenge.pw_waitbolts_k83_locks_written_and_read.main.body.getD i (.Pass ⟨0, 0, 0, 0⟩)
def ge : GE := {
  con := [("MOST_PRICE", .int (1000000)), ("MOST_BOLTS", .int (60)), ("MOST_WAYS", .int (8)), ("MOST_WORDS", .int (8)), ("FIGURES", .str "0123456789"), ("MOST_FIGURES", .int (300)), ("MOST_PARTS", .int (60)), ("NONE", .str "-"), ("EMPTY", .str ".")]
  tab := [("FORMS", [("bolt", .str "n"), ("gap", .str "nnn"), ("way", .str "w"), ("part", .str "ww"), ("step", .str "nn"), ("use", .str "n")])]
  exs := [("NoLock", "fault"), ("NoText", "row")]
  subs := [("NoLock", [("NoLock", true), ("NoText", false)]), ("NoText", [("NoLock", false), ("NoText", true)])] }
def tab : List FE := [f_is_whole, f_is_from, f_is_tuple, f_is_word, f_are_rising, f_is_gap, f_is_bolt, f_ways_of, f_first_wide, f_fault_of, f_is_lock, f_must_be_lock, f_number_in, f_word_in, f_show_word, f_rows_of, f_thing_in, f_row_in, f_show_lock, f_may_come, f_read_lock, f__law_pen, f__law_draw, f__law_pick, f__law_gaps, f__law_lock, f__law_sizes, f__law_great, f__law_tied, f__law_show_word, f__law_show_lock, f__law_fault, f_law]
theorem s_is_whole : FnSt tab ge f_is_whole (top 6) := ⟨⟨rfl, rfl, rfl, by decide +kernel, rfl, by decide +kernel, by decide +kernel⟩, by decide, rfl⟩
theorem b_is_whole : FnPl f_is_whole (top 6) := ⟨rfl, fun kV doc pm an cdv ct us (hl : us.length = 1) => match us, hl with | [_], _ => rfl⟩
theorem s_is_from : FnSt tab ge f_is_from (top 7) := ⟨⟨rfl, rfl, rfl, by decide +kernel, rfl, by decide +kernel, by decide +kernel⟩, by decide, rfl⟩
theorem b_is_from : FnPl f_is_from (top 7) := ⟨rfl, fun kV doc pm an cdv ct us (hl : us.length = 3) => match us, hl with | [_, _, _], _ => rfl⟩
theorem s_is_tuple : FnSt tab ge f_is_tuple (top 8) := ⟨⟨rfl, rfl, rfl, by decide +kernel, rfl, by decide +kernel, by decide +kernel⟩, by decide, rfl⟩
theorem b_is_tuple : FnPl f_is_tuple (top 8) := ⟨rfl, fun kV doc pm an cdv ct us (hl : us.length = 3) => match us, hl with | [_, _, _], _ => rfl⟩
theorem s_is_word : FnSt tab ge f_is_word (top 9) := ⟨⟨rfl, rfl, rfl, by decide +kernel, rfl, by decide +kernel, by decide +kernel⟩, by decide, rfl⟩
theorem b_is_word : FnPl f_is_word (top 9) := ⟨rfl, fun kV doc pm an cdv ct us (hl : us.length = 3) => match us, hl with | [_, _, _], _ => rfl⟩
theorem s_are_rising : FnSt tab ge f_are_rising (top 10) := ⟨⟨rfl, rfl, rfl, by decide +kernel, rfl, by decide +kernel, by decide +kernel⟩, by decide, rfl⟩
theorem b_are_rising : FnPl f_are_rising (top 10) := ⟨rfl, fun kV doc pm an cdv ct us (hl : us.length = 1) => match us, hl with | [_], _ => rfl⟩
theorem s_is_gap : FnSt tab ge f_is_gap (top 15) := ⟨⟨rfl, rfl, rfl, by decide +kernel, rfl, by decide +kernel, by decide +kernel⟩, by decide, rfl⟩
theorem b_is_gap : FnPl f_is_gap (top 15) := ⟨rfl, fun kV doc pm an cdv ct us (hl : us.length = 3) => match us, hl with | [_, _, _], _ => rfl⟩
theorem s_is_bolt : FnSt tab ge f_is_bolt (top 16) := ⟨⟨rfl, rfl, rfl, by decide +kernel, rfl, by decide +kernel, by decide +kernel⟩, by decide, rfl⟩
theorem b_is_bolt : FnPl f_is_bolt (top 16) := ⟨rfl, fun kV doc pm an cdv ct us (hl : us.length = 2) => match us, hl with | [_, _], _ => rfl⟩
theorem s_ways_of : FnSt tab ge f_ways_of (top 17) := ⟨⟨rfl, rfl, rfl, by decide +kernel, rfl, by decide +kernel, by decide +kernel⟩, by decide, rfl⟩
theorem b_ways_of : FnPl f_ways_of (top 17) := ⟨rfl, fun kV doc pm an cdv ct us (hl : us.length = 1) => match us, hl with | [_], _ => rfl⟩
theorem s_first_wide : FnSt tab ge f_first_wide (top 18) := ⟨⟨rfl, rfl, rfl, by decide +kernel, rfl, by decide +kernel, by decide +kernel⟩, by decide, rfl⟩
theorem b_first_wide : FnPl f_first_wide (top 18) := ⟨rfl, fun kV doc pm an cdv ct us (hl : us.length = 1) => match us, hl with | [_], _ => rfl⟩
theorem s_fault_of : FnSt tab ge f_fault_of (top 19) := ⟨⟨rfl, rfl, rfl, by decide +kernel, rfl, by decide +kernel, by decide +kernel⟩, by decide, rfl⟩
theorem b_fault_of : FnPl f_fault_of (top 19) := ⟨rfl, fun kV doc pm an cdv ct us (hl : us.length = 1) => match us, hl with | [_], _ => rfl⟩
theorem s_is_lock : FnSt tab ge f_is_lock (top 20) := ⟨⟨rfl, rfl, rfl, by decide +kernel, rfl, by decide +kernel, by decide +kernel⟩, by decide, rfl⟩
theorem b_is_lock : FnPl f_is_lock (top 20) := ⟨rfl, fun kV doc pm an cdv ct us (hl : us.length = 1) => match us, hl with | [_], _ => rfl⟩
theorem s_must_be_lock : FnSt tab ge f_must_be_lock (top 21) := ⟨⟨rfl, rfl, rfl, by decide +kernel, rfl, by decide +kernel, by decide +kernel⟩, by decide, rfl⟩
theorem b_must_be_lock : FnPl f_must_be_lock (top 21) := ⟨rfl, fun kV doc pm an cdv ct us (hl : us.length = 1) => match us, hl with | [_], _ => rfl⟩
theorem s_number_in : FnSt tab ge f_number_in (top 28) := ⟨⟨rfl, rfl, rfl, by decide +kernel, rfl, by decide +kernel, by decide +kernel⟩, by decide, rfl⟩
theorem b_number_in : FnPl f_number_in (top 28) := ⟨rfl, fun kV doc pm an cdv ct us (hl : us.length = 1) => match us, hl with | [_], _ => rfl⟩
theorem s_word_in : FnSt tab ge f_word_in (top 29) := ⟨⟨rfl, rfl, rfl, by decide +kernel, rfl, by decide +kernel, by decide +kernel⟩, by decide, rfl⟩
theorem b_word_in : FnKw f_word_in (top 29) 1 [("is_open", .bl false)] := ⟨by simp, rfl, fun K G => .cons (.bl false) .nil, fun D doc pm an cdv ct us ks (h1 : us.length = 1) (h2 : ks.length = 1) => match us, ks, h1, h2 with | [_], [_], _, _ => ⟨_, _, _, _, _, _, rfl, rfl, rfl⟩⟩
theorem s_show_word : FnSt tab ge f_show_word (top 30) := ⟨⟨rfl, rfl, rfl, by decide +kernel, rfl, by decide +kernel, by decide +kernel⟩, by decide, rfl⟩
theorem b_show_word : FnPl f_show_word (top 30) := ⟨rfl, fun kV doc pm an cdv ct us (hl : us.length = 1) => match us, hl with | [_], _ => rfl⟩
theorem s_rows_of : FnSt tab ge f_rows_of (top 33) := ⟨⟨rfl, rfl, rfl, by decide +kernel, rfl, by decide +kernel, by decide +kernel⟩, by decide, rfl⟩
theorem b_rows_of : FnPl f_rows_of (top 33) := ⟨rfl, fun kV doc pm an cdv ct us (hl : us.length = 1) => match us, hl with | [_], _ => rfl⟩
theorem s_thing_in : FnSt tab ge f_thing_in (top 34) := ⟨⟨rfl, rfl, rfl, by decide +kernel, rfl, by decide +kernel, by decide +kernel⟩, by decide, rfl⟩
theorem b_thing_in : FnPl f_thing_in (top 34) := ⟨rfl, fun kV doc pm an cdv ct us (hl : us.length = 2) => match us, hl with | [_, _], _ => rfl⟩
theorem s_row_in : FnSt tab ge f_row_in (top 35) := ⟨⟨rfl, rfl, rfl, by decide +kernel, rfl, by decide +kernel, by decide +kernel⟩, by decide, rfl⟩
theorem b_row_in : FnPl f_row_in (top 35) := ⟨rfl, fun kV doc pm an cdv ct us (hl : us.length = 1) => match us, hl with | [_], _ => rfl⟩
theorem s_show_lock : FnSt tab ge f_show_lock (top 37) := ⟨⟨rfl, rfl, rfl, by decide +kernel, rfl, by decide +kernel, by decide +kernel⟩, by decide, rfl⟩
theorem b_show_lock : FnPl f_show_lock (top 37) := ⟨rfl, fun kV doc pm an cdv ct us (hl : us.length = 1) => match us, hl with | [_], _ => rfl⟩
theorem s_may_come : FnSt tab ge f_may_come (top 38) := ⟨⟨rfl, rfl, rfl, by decide +kernel, rfl, by decide +kernel, by decide +kernel⟩, by decide, rfl⟩
theorem b_may_come : FnPl f_may_come (top 38) := ⟨rfl, fun kV doc pm an cdv ct us (hl : us.length = 2) => match us, hl with | [_, _], _ => rfl⟩
theorem s_read_lock : FnSt tab ge f_read_lock (top 39) := ⟨⟨rfl, rfl, rfl, by decide +kernel, rfl, by decide +kernel, by decide +kernel⟩, by decide, rfl⟩
theorem b_read_lock : FnPl f_read_lock (top 39) := ⟨rfl, fun kV doc pm an cdv ct us (hl : us.length = 1) => match us, hl with | [_], _ => rfl⟩
theorem s__law_pen : FnSt tab ge f__law_pen (top 41) := ⟨⟨rfl, rfl, rfl, by decide +kernel, rfl, by decide +kernel, by decide +kernel⟩, by decide, rfl⟩
theorem b__law_pen : FnPl f__law_pen (top 41) := ⟨rfl, fun kV doc pm an cdv ct us (hl : us.length = 1) => match us, hl with | [_], _ => rfl⟩
theorem s__law_draw : FnSt tab ge f__law_draw (top 42) := ⟨⟨rfl, rfl, rfl, by decide +kernel, rfl, by decide +kernel, by decide +kernel⟩, by decide, rfl⟩
theorem b__law_draw : FnPl f__law_draw (top 42) := ⟨rfl, fun kV doc pm an cdv ct us (hl : us.length = 2) => match us, hl with | [_, _], _ => rfl⟩
theorem s__law_pick : FnSt tab ge f__law_pick (top 43) := ⟨⟨rfl, rfl, rfl, by decide +kernel, rfl, by decide +kernel, by decide +kernel⟩, by decide, rfl⟩
theorem b__law_pick : FnPl f__law_pick (top 43) := ⟨rfl, fun kV doc pm an cdv ct us (hl : us.length = 2) => match us, hl with | [_, _], _ => rfl⟩
theorem s__law_gaps : FnSt tab ge f__law_gaps (top 44) := ⟨⟨rfl, rfl, rfl, by decide +kernel, rfl, by decide +kernel, by decide +kernel⟩, by decide, rfl⟩
theorem b__law_gaps : FnPl f__law_gaps (top 44) := ⟨rfl, fun kV doc pm an cdv ct us (hl : us.length = 3) => match us, hl with | [_, _, _], _ => rfl⟩
theorem s__law_lock : FnSt tab ge f__law_lock (top 45) := ⟨⟨rfl, rfl, rfl, by decide +kernel, rfl, by decide +kernel, by decide +kernel⟩, by decide, rfl⟩
theorem b__law_lock : FnPl f__law_lock (top 45) := ⟨rfl, fun kV doc pm an cdv ct us (hl : us.length = 2) => match us, hl with | [_, _], _ => rfl⟩
theorem s__law_sizes : FnSt tab ge f__law_sizes (top 46) := ⟨⟨rfl, rfl, rfl, by decide +kernel, rfl, by decide +kernel, by decide +kernel⟩, by decide, rfl⟩
theorem b__law_sizes : FnPl f__law_sizes (top 46) := ⟨rfl, fun kV doc pm an cdv ct us (hl : us.length = 2) => match us, hl with | [_, _], _ => rfl⟩
theorem s__law_great : FnSt tab ge f__law_great (top 47) := ⟨⟨rfl, rfl, rfl, by decide +kernel, rfl, by decide +kernel, by decide +kernel⟩, by decide, rfl⟩
theorem b__law_great : FnPl f__law_great (top 47) := ⟨rfl, fun kV doc pm an cdv ct us (hl : us.length = 2) => match us, hl with | [_, _], _ => rfl⟩
theorem s__law_tied : FnSt tab ge f__law_tied (top 48) := ⟨⟨rfl, rfl, rfl, by decide +kernel, rfl, by decide +kernel, by decide +kernel⟩, by decide, rfl⟩
theorem b__law_tied : FnPl f__law_tied (top 48) := ⟨rfl, fun kV doc pm an cdv ct us (hl : us.length = 2) => match us, hl with | [_, _], _ => rfl⟩
theorem s__law_show_word : FnSt tab ge f__law_show_word (top 49) := ⟨⟨rfl, rfl, rfl, by decide +kernel, rfl, by decide +kernel, by decide +kernel⟩, by decide, rfl⟩
theorem b__law_show_word : FnPl f__law_show_word (top 49) := ⟨rfl, fun kV doc pm an cdv ct us (hl : us.length = 1) => match us, hl with | [_], _ => rfl⟩
theorem s__law_show_lock : FnSt tab ge f__law_show_lock (top 50) := ⟨⟨rfl, rfl, rfl, by decide +kernel, rfl, by decide +kernel, by decide +kernel⟩, by decide, rfl⟩
theorem b__law_show_lock : FnPl f__law_show_lock (top 50) := ⟨rfl, fun kV doc pm an cdv ct us (hl : us.length = 1) => match us, hl with | [_], _ => rfl⟩
theorem s__law_fault : FnSt tab ge f__law_fault (top 51) := ⟨⟨rfl, rfl, rfl, by decide +kernel, rfl, by decide +kernel, by decide +kernel⟩, by decide, rfl⟩
theorem b__law_fault : FnPl f__law_fault (top 51) := ⟨rfl, fun kV doc pm an cdv ct us (hl : us.length = 1) => match us, hl with | [_], _ => rfl⟩
theorem s_law : FnSt tab ge f_law (top 52) := ⟨⟨rfl, rfl, rfl, by decide +kernel, rfl, by decide +kernel, by decide +kernel⟩, by decide, rfl⟩
theorem b_law : FnPl f_law (top 52) := ⟨rfl, fun kV doc pm an cdv ct us (hl : us.length = 1) => match us, hl with | [_], _ => rfl⟩
theorem all_mk {P : Program} {w : World} {K : PySem.W.Frag} {h : Heap} {mg : Str → Option Value} {fa : Addr} (X : K.In h) (G : h.Ns mainGlobals mg) (hfa : mg "law" = some (.ref fa))
    {f0 : Addr} {oc0 kV0 dc0 pm0 cd0 ct0 : Value} {od0 an0 : Option Addr} {sl0 : Array (Option Value)}
    {f1 : Addr} {oc1 kV1 dc1 pm1 cd1 ct1 : Value} {od1 an1 : Option Addr} {sl1 : Array (Option Value)}
    {f2 : Addr} {oc2 kV2 dc2 pm2 cd2 ct2 : Value} {od2 an2 : Option Addr} {sl2 : Array (Option Value)}
    {f3 : Addr} {oc3 kV3 dc3 pm3 cd3 ct3 : Value} {od3 an3 : Option Addr} {sl3 : Array (Option Value)}
    {f4 : Addr} {oc4 kV4 dc4 pm4 cd4 ct4 : Value} {od4 an4 : Option Addr} {sl4 : Array (Option Value)}
    {f5 : Addr} {oc5 kV5 dc5 pm5 cd5 ct5 : Value} {od5 an5 : Option Addr} {sl5 : Array (Option Value)}
    {f6 : Addr} {oc6 kV6 dc6 pm6 cd6 ct6 : Value} {od6 an6 : Option Addr} {sl6 : Array (Option Value)}
    {f7 : Addr} {oc7 kV7 dc7 pm7 cd7 ct7 : Value} {od7 an7 : Option Addr} {sl7 : Array (Option Value)}
    {f8 : Addr} {oc8 kV8 dc8 pm8 cd8 ct8 : Value} {od8 an8 : Option Addr} {sl8 : Array (Option Value)}
    {f9 : Addr} {oc9 kV9 dc9 pm9 cd9 ct9 : Value} {od9 an9 : Option Addr} {sl9 : Array (Option Value)}
    {f10 : Addr} {oc10 kV10 dc10 pm10 cd10 ct10 : Value} {od10 an10 : Option Addr} {sl10 : Array (Option Value)}
    {f11 : Addr} {oc11 kV11 dc11 pm11 cd11 ct11 : Value} {od11 an11 : Option Addr} {sl11 : Array (Option Value)}
    {f12 : Addr} {oc12 kV12 dc12 pm12 cd12 ct12 : Value} {od12 an12 : Option Addr} {sl12 : Array (Option Value)}
    {f13 : Addr} {oc13 dc13 pm13 cd13 ct13 : Value} {od13 an13 : Option Addr} {sl13 : Array (Option Value)}
    {D13 : Addr}
    {f14 : Addr} {oc14 kV14 dc14 pm14 cd14 ct14 : Value} {od14 an14 : Option Addr} {sl14 : Array (Option Value)}
    {f15 : Addr} {oc15 kV15 dc15 pm15 cd15 ct15 : Value} {od15 an15 : Option Addr} {sl15 : Array (Option Value)}
    {f16 : Addr} {oc16 kV16 dc16 pm16 cd16 ct16 : Value} {od16 an16 : Option Addr} {sl16 : Array (Option Value)}
    {f17 : Addr} {oc17 kV17 dc17 pm17 cd17 ct17 : Value} {od17 an17 : Option Addr} {sl17 : Array (Option Value)}
    {f18 : Addr} {oc18 kV18 dc18 pm18 cd18 ct18 : Value} {od18 an18 : Option Addr} {sl18 : Array (Option Value)}
    {f19 : Addr} {oc19 kV19 dc19 pm19 cd19 ct19 : Value} {od19 an19 : Option Addr} {sl19 : Array (Option Value)}
    {f20 : Addr} {oc20 kV20 dc20 pm20 cd20 ct20 : Value} {od20 an20 : Option Addr} {sl20 : Array (Option Value)}
    {f21 : Addr} {oc21 kV21 dc21 pm21 cd21 ct21 : Value} {od21 an21 : Option Addr} {sl21 : Array (Option Value)}
    {f22 : Addr} {oc22 kV22 dc22 pm22 cd22 ct22 : Value} {od22 an22 : Option Addr} {sl22 : Array (Option Value)}
    {f23 : Addr} {oc23 kV23 dc23 pm23 cd23 ct23 : Value} {od23 an23 : Option Addr} {sl23 : Array (Option Value)}
    {f24 : Addr} {oc24 kV24 dc24 pm24 cd24 ct24 : Value} {od24 an24 : Option Addr} {sl24 : Array (Option Value)}
    {f25 : Addr} {oc25 kV25 dc25 pm25 cd25 ct25 : Value} {od25 an25 : Option Addr} {sl25 : Array (Option Value)}
    {f26 : Addr} {oc26 kV26 dc26 pm26 cd26 ct26 : Value} {od26 an26 : Option Addr} {sl26 : Array (Option Value)}
    {f27 : Addr} {oc27 kV27 dc27 pm27 cd27 ct27 : Value} {od27 an27 : Option Addr} {sl27 : Array (Option Value)}
    {f28 : Addr} {oc28 kV28 dc28 pm28 cd28 ct28 : Value} {od28 an28 : Option Addr} {sl28 : Array (Option Value)}
    {f29 : Addr} {oc29 kV29 dc29 pm29 cd29 ct29 : Value} {od29 an29 : Option Addr} {sl29 : Array (Option Value)}
    {f30 : Addr} {oc30 kV30 dc30 pm30 cd30 ct30 : Value} {od30 an30 : Option Addr} {sl30 : Array (Option Value)}
    {f31 : Addr} {oc31 kV31 dc31 pm31 cd31 ct31 : Value} {od31 an31 : Option Addr} {sl31 : Array (Option Value)}
    {f32 : Addr} {oc32 kV32 dc32 pm32 cd32 ct32 : Value} {od32 an32 : Option Addr} {sl32 : Array (Option Value)}
    {tk0 : Tok}
    {tk1 : Tok}
    {tk2 : Tok}
    {tk3 : Tok}
    {tk4 : Tok}
    {tk5 : Tok}
    {tk6 : Tok}
    {tk7 : Tok}
    {tk8 : Tok}
    {ta0 : Addr} {te0 : Array DictEntry} {tn0 : Nat}
    {B : Addr}
    {C0 N0 I0 : Addr} {nm0 q0 : Str} {bs0 bm0 sub0 : List Value} {sn0 : List Str} {ab0 : Bool} {col0 : Option Bool} {dd0 : Option Addr} {m00 m10 m20 m30 m50 : Option Value} {oce0 kVe0 dce0 pme0 cde0 cte0 : Value} {ode0 ane0 : Option Addr} {sle0 : Array (Option Value)}
    {C1 N1 I1 : Addr} {nm1 q1 : Str} {bs1 bm1 sub1 : List Value} {sn1 : List Str} {ab1 : Bool} {col1 : Option Bool} {dd1 : Option Addr} {m01 m11 m21 m31 m51 : Option Value} {oce1 kVe1 dce1 pme1 cde1 cte1 : Value} {ode1 ane1 : Option Addr} {sle1 : Array (Option Value)}
    (a0 : PySem.W.nsIn K mainGlobals "is_whole" = some (some (.ref f0)))
    (l0 : K.lookup f0 = some ⟨oc0, od0, .func (PySem.W.fnOf "is_whole" "is_whole" (defArgs (top 6)) (defBody (top 6)) (defScope (top 6)) .none kV0 dc0 pm0 an0 cd0 ct0), sl0⟩)
    (c0 : PySem.W.codeIn K cd0 "is_whole" = true)
    (k0 : PySem.W.keepIn K (.ref f0) = true)
    (a1 : PySem.W.nsIn K mainGlobals "is_from" = some (some (.ref f1)))
    (l1 : K.lookup f1 = some ⟨oc1, od1, .func (PySem.W.fnOf "is_from" "is_from" (defArgs (top 7)) (defBody (top 7)) (defScope (top 7)) .none kV1 dc1 pm1 an1 cd1 ct1), sl1⟩)
    (c1 : PySem.W.codeIn K cd1 "is_from" = true)
    (k1 : PySem.W.keepIn K (.ref f1) = true)
    (a2 : PySem.W.nsIn K mainGlobals "is_tuple" = some (some (.ref f2)))
    (l2 : K.lookup f2 = some ⟨oc2, od2, .func (PySem.W.fnOf "is_tuple" "is_tuple" (defArgs (top 8)) (defBody (top 8)) (defScope (top 8)) .none kV2 dc2 pm2 an2 cd2 ct2), sl2⟩)
    (c2 : PySem.W.codeIn K cd2 "is_tuple" = true)
    (k2 : PySem.W.keepIn K (.ref f2) = true)
    (a3 : PySem.W.nsIn K mainGlobals "is_word" = some (some (.ref f3)))
    (l3 : K.lookup f3 = some ⟨oc3, od3, .func (PySem.W.fnOf "is_word" "is_word" (defArgs (top 9)) (defBody (top 9)) (defScope (top 9)) .none kV3 dc3 pm3 an3 cd3 ct3), sl3⟩)
    (c3 : PySem.W.codeIn K cd3 "is_word" = true)
    (k3 : PySem.W.keepIn K (.ref f3) = true)
    (a4 : PySem.W.nsIn K mainGlobals "are_rising" = some (some (.ref f4)))
    (l4 : K.lookup f4 = some ⟨oc4, od4, .func (PySem.W.fnOf "are_rising" "are_rising" (defArgs (top 10)) (defBody (top 10)) (defScope (top 10)) .none kV4 dc4 pm4 an4 cd4 ct4), sl4⟩)
    (c4 : PySem.W.codeIn K cd4 "are_rising" = true)
    (k4 : PySem.W.keepIn K (.ref f4) = true)
    (a5 : PySem.W.nsIn K mainGlobals "is_gap" = some (some (.ref f5)))
    (l5 : K.lookup f5 = some ⟨oc5, od5, .func (PySem.W.fnOf "is_gap" "is_gap" (defArgs (top 15)) (defBody (top 15)) (defScope (top 15)) .none kV5 dc5 pm5 an5 cd5 ct5), sl5⟩)
    (c5 : PySem.W.codeIn K cd5 "is_gap" = true)
    (k5 : PySem.W.keepIn K (.ref f5) = true)
    (a6 : PySem.W.nsIn K mainGlobals "is_bolt" = some (some (.ref f6)))
    (l6 : K.lookup f6 = some ⟨oc6, od6, .func (PySem.W.fnOf "is_bolt" "is_bolt" (defArgs (top 16)) (defBody (top 16)) (defScope (top 16)) .none kV6 dc6 pm6 an6 cd6 ct6), sl6⟩)
    (c6 : PySem.W.codeIn K cd6 "is_bolt" = true)
    (k6 : PySem.W.keepIn K (.ref f6) = true)
    (a7 : PySem.W.nsIn K mainGlobals "ways_of" = some (some (.ref f7)))
    (l7 : K.lookup f7 = some ⟨oc7, od7, .func (PySem.W.fnOf "ways_of" "ways_of" (defArgs (top 17)) (defBody (top 17)) (defScope (top 17)) .none kV7 dc7 pm7 an7 cd7 ct7), sl7⟩)
    (c7 : PySem.W.codeIn K cd7 "ways_of" = true)
    (k7 : PySem.W.keepIn K (.ref f7) = true)
    (a8 : PySem.W.nsIn K mainGlobals "first_wide" = some (some (.ref f8)))
    (l8 : K.lookup f8 = some ⟨oc8, od8, .func (PySem.W.fnOf "first_wide" "first_wide" (defArgs (top 18)) (defBody (top 18)) (defScope (top 18)) .none kV8 dc8 pm8 an8 cd8 ct8), sl8⟩)
    (c8 : PySem.W.codeIn K cd8 "first_wide" = true)
    (k8 : PySem.W.keepIn K (.ref f8) = true)
    (a9 : PySem.W.nsIn K mainGlobals "fault_of" = some (some (.ref f9)))
    (l9 : K.lookup f9 = some ⟨oc9, od9, .func (PySem.W.fnOf "fault_of" "fault_of" (defArgs (top 19)) (defBody (top 19)) (defScope (top 19)) .none kV9 dc9 pm9 an9 cd9 ct9), sl9⟩)
    (c9 : PySem.W.codeIn K cd9 "fault_of" = true)
    (k9 : PySem.W.keepIn K (.ref f9) = true)
    (a10 : PySem.W.nsIn K mainGlobals "is_lock" = some (some (.ref f10)))
    (l10 : K.lookup f10 = some ⟨oc10, od10, .func (PySem.W.fnOf "is_lock" "is_lock" (defArgs (top 20)) (defBody (top 20)) (defScope (top 20)) .none kV10 dc10 pm10 an10 cd10 ct10), sl10⟩)
    (c10 : PySem.W.codeIn K cd10 "is_lock" = true)
    (k10 : PySem.W.keepIn K (.ref f10) = true)
    (a11 : PySem.W.nsIn K mainGlobals "must_be_lock" = some (some (.ref f11)))
    (l11 : K.lookup f11 = some ⟨oc11, od11, .func (PySem.W.fnOf "must_be_lock" "must_be_lock" (defArgs (top 21)) (defBody (top 21)) (defScope (top 21)) .none kV11 dc11 pm11 an11 cd11 ct11), sl11⟩)
    (c11 : PySem.W.codeIn K cd11 "must_be_lock" = true)
    (k11 : PySem.W.keepIn K (.ref f11) = true)
    (a12 : PySem.W.nsIn K mainGlobals "number_in" = some (some (.ref f12)))
    (l12 : K.lookup f12 = some ⟨oc12, od12, .func (PySem.W.fnOf "number_in" "number_in" (defArgs (top 28)) (defBody (top 28)) (defScope (top 28)) .none kV12 dc12 pm12 an12 cd12 ct12), sl12⟩)
    (c12 : PySem.W.codeIn K cd12 "number_in" = true)
    (k12 : PySem.W.keepIn K (.ref f12) = true)
    (a13 : PySem.W.nsIn K mainGlobals "word_in" = some (some (.ref f13)))
    (l13 : K.lookup f13 = some ⟨oc13, od13, .func (PySem.W.fnOf "word_in" "word_in" (defArgs (top 29)) (defBody (top 29)) (defScope (top 29)) .none (.ref D13) dc13 pm13 an13 cd13 ct13), sl13⟩)
    (c13 : PySem.W.codeIn K cd13 "word_in" = true)
    (k13 : PySem.W.keepIn K (.ref f13) = true)
    (d13_0 : PySem.W.nsIn K D13 "is_open" = some (some (.bool false)))
    (a14 : PySem.W.nsIn K mainGlobals "show_word" = some (some (.ref f14)))
    (l14 : K.lookup f14 = some ⟨oc14, od14, .func (PySem.W.fnOf "show_word" "show_word" (defArgs (top 30)) (defBody (top 30)) (defScope (top 30)) .none kV14 dc14 pm14 an14 cd14 ct14), sl14⟩)
    (c14 : PySem.W.codeIn K cd14 "show_word" = true)
    (k14 : PySem.W.keepIn K (.ref f14) = true)
    (a15 : PySem.W.nsIn K mainGlobals "rows_of" = some (some (.ref f15)))
    (l15 : K.lookup f15 = some ⟨oc15, od15, .func (PySem.W.fnOf "rows_of" "rows_of" (defArgs (top 33)) (defBody (top 33)) (defScope (top 33)) .none kV15 dc15 pm15 an15 cd15 ct15), sl15⟩)
    (c15 : PySem.W.codeIn K cd15 "rows_of" = true)
    (k15 : PySem.W.keepIn K (.ref f15) = true)
    (a16 : PySem.W.nsIn K mainGlobals "thing_in" = some (some (.ref f16)))
    (l16 : K.lookup f16 = some ⟨oc16, od16, .func (PySem.W.fnOf "thing_in" "thing_in" (defArgs (top 34)) (defBody (top 34)) (defScope (top 34)) .none kV16 dc16 pm16 an16 cd16 ct16), sl16⟩)
    (c16 : PySem.W.codeIn K cd16 "thing_in" = true)
    (k16 : PySem.W.keepIn K (.ref f16) = true)
    (a17 : PySem.W.nsIn K mainGlobals "row_in" = some (some (.ref f17)))
    (l17 : K.lookup f17 = some ⟨oc17, od17, .func (PySem.W.fnOf "row_in" "row_in" (defArgs (top 35)) (defBody (top 35)) (defScope (top 35)) .none kV17 dc17 pm17 an17 cd17 ct17), sl17⟩)
    (c17 : PySem.W.codeIn K cd17 "row_in" = true)
    (k17 : PySem.W.keepIn K (.ref f17) = true)
    (a18 : PySem.W.nsIn K mainGlobals "show_lock" = some (some (.ref f18)))
    (l18 : K.lookup f18 = some ⟨oc18, od18, .func (PySem.W.fnOf "show_lock" "show_lock" (defArgs (top 37)) (defBody (top 37)) (defScope (top 37)) .none kV18 dc18 pm18 an18 cd18 ct18), sl18⟩)
    (c18 : PySem.W.codeIn K cd18 "show_lock" = true)
    (k18 : PySem.W.keepIn K (.ref f18) = true)
    (a19 : PySem.W.nsIn K mainGlobals "may_come" = some (some (.ref f19)))
    (l19 : K.lookup f19 = some ⟨oc19, od19, .func (PySem.W.fnOf "may_come" "may_come" (defArgs (top 38)) (defBody (top 38)) (defScope (top 38)) .none kV19 dc19 pm19 an19 cd19 ct19), sl19⟩)
    (c19 : PySem.W.codeIn K cd19 "may_come" = true)
    (k19 : PySem.W.keepIn K (.ref f19) = true)
    (a20 : PySem.W.nsIn K mainGlobals "read_lock" = some (some (.ref f20)))
    (l20 : K.lookup f20 = some ⟨oc20, od20, .func (PySem.W.fnOf "read_lock" "read_lock" (defArgs (top 39)) (defBody (top 39)) (defScope (top 39)) .none kV20 dc20 pm20 an20 cd20 ct20), sl20⟩)
    (c20 : PySem.W.codeIn K cd20 "read_lock" = true)
    (k20 : PySem.W.keepIn K (.ref f20) = true)
    (a21 : PySem.W.nsIn K mainGlobals "_law_pen" = some (some (.ref f21)))
    (l21 : K.lookup f21 = some ⟨oc21, od21, .func (PySem.W.fnOf "_law_pen" "_law_pen" (defArgs (top 41)) (defBody (top 41)) (defScope (top 41)) .none kV21 dc21 pm21 an21 cd21 ct21), sl21⟩)
    (c21 : PySem.W.codeIn K cd21 "_law_pen" = true)
    (k21 : PySem.W.keepIn K (.ref f21) = true)
    (a22 : PySem.W.nsIn K mainGlobals "_law_draw" = some (some (.ref f22)))
    (l22 : K.lookup f22 = some ⟨oc22, od22, .func (PySem.W.fnOf "_law_draw" "_law_draw" (defArgs (top 42)) (defBody (top 42)) (defScope (top 42)) .none kV22 dc22 pm22 an22 cd22 ct22), sl22⟩)
    (c22 : PySem.W.codeIn K cd22 "_law_draw" = true)
    (k22 : PySem.W.keepIn K (.ref f22) = true)
    (a23 : PySem.W.nsIn K mainGlobals "_law_pick" = some (some (.ref f23)))
    (l23 : K.lookup f23 = some ⟨oc23, od23, .func (PySem.W.fnOf "_law_pick" "_law_pick" (defArgs (top 43)) (defBody (top 43)) (defScope (top 43)) .none kV23 dc23 pm23 an23 cd23 ct23), sl23⟩)
    (c23 : PySem.W.codeIn K cd23 "_law_pick" = true)
    (k23 : PySem.W.keepIn K (.ref f23) = true)
    (a24 : PySem.W.nsIn K mainGlobals "_law_gaps" = some (some (.ref f24)))
    (l24 : K.lookup f24 = some ⟨oc24, od24, .func (PySem.W.fnOf "_law_gaps" "_law_gaps" (defArgs (top 44)) (defBody (top 44)) (defScope (top 44)) .none kV24 dc24 pm24 an24 cd24 ct24), sl24⟩)
    (c24 : PySem.W.codeIn K cd24 "_law_gaps" = true)
    (k24 : PySem.W.keepIn K (.ref f24) = true)
    (a25 : PySem.W.nsIn K mainGlobals "_law_lock" = some (some (.ref f25)))
    (l25 : K.lookup f25 = some ⟨oc25, od25, .func (PySem.W.fnOf "_law_lock" "_law_lock" (defArgs (top 45)) (defBody (top 45)) (defScope (top 45)) .none kV25 dc25 pm25 an25 cd25 ct25), sl25⟩)
    (c25 : PySem.W.codeIn K cd25 "_law_lock" = true)
    (k25 : PySem.W.keepIn K (.ref f25) = true)
    (a26 : PySem.W.nsIn K mainGlobals "_law_sizes" = some (some (.ref f26)))
    (l26 : K.lookup f26 = some ⟨oc26, od26, .func (PySem.W.fnOf "_law_sizes" "_law_sizes" (defArgs (top 46)) (defBody (top 46)) (defScope (top 46)) .none kV26 dc26 pm26 an26 cd26 ct26), sl26⟩)
    (c26 : PySem.W.codeIn K cd26 "_law_sizes" = true)
    (k26 : PySem.W.keepIn K (.ref f26) = true)
    (a27 : PySem.W.nsIn K mainGlobals "_law_great" = some (some (.ref f27)))
    (l27 : K.lookup f27 = some ⟨oc27, od27, .func (PySem.W.fnOf "_law_great" "_law_great" (defArgs (top 47)) (defBody (top 47)) (defScope (top 47)) .none kV27 dc27 pm27 an27 cd27 ct27), sl27⟩)
    (c27 : PySem.W.codeIn K cd27 "_law_great" = true)
    (k27 : PySem.W.keepIn K (.ref f27) = true)
    (a28 : PySem.W.nsIn K mainGlobals "_law_tied" = some (some (.ref f28)))
    (l28 : K.lookup f28 = some ⟨oc28, od28, .func (PySem.W.fnOf "_law_tied" "_law_tied" (defArgs (top 48)) (defBody (top 48)) (defScope (top 48)) .none kV28 dc28 pm28 an28 cd28 ct28), sl28⟩)
    (c28 : PySem.W.codeIn K cd28 "_law_tied" = true)
    (k28 : PySem.W.keepIn K (.ref f28) = true)
    (a29 : PySem.W.nsIn K mainGlobals "_law_show_word" = some (some (.ref f29)))
    (l29 : K.lookup f29 = some ⟨oc29, od29, .func (PySem.W.fnOf "_law_show_word" "_law_show_word" (defArgs (top 49)) (defBody (top 49)) (defScope (top 49)) .none kV29 dc29 pm29 an29 cd29 ct29), sl29⟩)
    (c29 : PySem.W.codeIn K cd29 "_law_show_word" = true)
    (k29 : PySem.W.keepIn K (.ref f29) = true)
    (a30 : PySem.W.nsIn K mainGlobals "_law_show_lock" = some (some (.ref f30)))
    (l30 : K.lookup f30 = some ⟨oc30, od30, .func (PySem.W.fnOf "_law_show_lock" "_law_show_lock" (defArgs (top 50)) (defBody (top 50)) (defScope (top 50)) .none kV30 dc30 pm30 an30 cd30 ct30), sl30⟩)
    (c30 : PySem.W.codeIn K cd30 "_law_show_lock" = true)
    (k30 : PySem.W.keepIn K (.ref f30) = true)
    (a31 : PySem.W.nsIn K mainGlobals "_law_fault" = some (some (.ref f31)))
    (l31 : K.lookup f31 = some ⟨oc31, od31, .func (PySem.W.fnOf "_law_fault" "_law_fault" (defArgs (top 51)) (defBody (top 51)) (defScope (top 51)) .none kV31 dc31 pm31 an31 cd31 ct31), sl31⟩)
    (c31 : PySem.W.codeIn K cd31 "_law_fault" = true)
    (k31 : PySem.W.keepIn K (.ref f31) = true)
    (a32 : PySem.W.nsIn K mainGlobals "law" = some (some (.ref f32)))
    (l32 : K.lookup f32 = some ⟨oc32, od32, .func (PySem.W.fnOf "law" "law" (defArgs (top 52)) (defBody (top 52)) (defScope (top 52)) .none kV32 dc32 pm32 an32 cd32 ct32), sl32⟩)
    (c32 : PySem.W.codeIn K cd32 "law" = true)
    (k32 : PySem.W.keepIn K (.ref f32) = true)
    (n0 : PySem.W.nsIn K mainGlobals "range" = some none)
    (n1 : PySem.W.nsIn K mainGlobals "enumerate" = some none)
    (n2 : PySem.W.nsIn K mainGlobals "zip" = some none)
    (n3 : PySem.W.nsIn K mainGlobals "len" = some none)
    (n4 : PySem.W.nsIn K mainGlobals "all" = some none)
    (n5 : PySem.W.nsIn K mainGlobals "any" = some none)
    (n6 : PySem.W.nsIn K mainGlobals "sum" = some none)
    (n7 : PySem.W.nsIn K mainGlobals "abs" = some none)
    (n8 : PySem.W.nsIn K mainGlobals "min" = some none)
    (n9 : PySem.W.nsIn K mainGlobals "max" = some none)
    (n10 : PySem.W.nsIn K mainGlobals "int" = some none)
    (n11 : PySem.W.nsIn K mainGlobals "str" = some none)
    (n12 : PySem.W.nsIn K mainGlobals "list" = some none)
    (n13 : PySem.W.nsIn K mainGlobals "tuple" = some none)
    (n14 : PySem.W.nsIn K mainGlobals "sorted" = some none)
    (n15 : PySem.W.nsIn K mainGlobals "set" = some none)
    (n16 : PySem.W.nsIn K mainGlobals "repr" = some none)
    (n17 : PySem.W.nsIn K mainGlobals "isinstance" = some none)
    (n18 : PySem.W.nsIn K mainGlobals "bool" = some none)
    (n19 : PySem.W.nsIn K mainGlobals "dict" = some none)
    (v0 : PySem.W.nsIn K mainGlobals "MOST_PRICE" = some (some (.int (1000000) tk0)))
    (v1 : PySem.W.nsIn K mainGlobals "MOST_BOLTS" = some (some (.int (60) tk1)))
    (v2 : PySem.W.nsIn K mainGlobals "MOST_WAYS" = some (some (.int (8) tk2)))
    (v3 : PySem.W.nsIn K mainGlobals "MOST_WORDS" = some (some (.int (8) tk3)))
    (v4 : PySem.W.nsIn K mainGlobals "FIGURES" = some (some (.str "0123456789" tk4)))
    (v5 : PySem.W.nsIn K mainGlobals "MOST_FIGURES" = some (some (.int (300) tk5)))
    (v6 : PySem.W.nsIn K mainGlobals "MOST_PARTS" = some (some (.int (60) tk6)))
    (v7 : PySem.W.nsIn K mainGlobals "NONE" = some (some (.str "-" tk7)))
    (v8 : PySem.W.nsIn K mainGlobals "EMPTY" = some (some (.str "." tk8)))
    (ta_0 : PySem.W.nsIn K mainGlobals "FORMS" = some (some (.ref ta0)))
    (tl_0 : K.lookup ta0 = some ⟨.type "dict", none, .dict te0 tn0, #[]⟩)
    (tk_0 : PySem.W.KeysLit w.params te0.toList)
    (te_0 : EsTab te0.toList [("bolt", .str "n"), ("gap", .str "nnn"), ("way", .str "w"), ("part", .str "ww"), ("step", .str "nn"), ("use", .str "n")])
    (to_0 : (ta0 == sysModules) = false)
    (aB : PySem.W.nsIn K mainGlobals "BoltError" = some (some (.ref B)))
    (hsB : PySem.W.specialIn K (.ref B) "__getattribute__" = some (some (.builtin "type.__getattribute__")))
    (hrB : PySem.W.readsIn K B (.type "type") = true)
    (hfB : PySem.W.findCls K (.ref B) (.type "type") "__init__" = some (.val (.builtin "ValueError.__init__")))
    (xa0 : PySem.W.nsIn K mainGlobals "NoLock" = some (some (.ref C0)))
    (xl0 : K.lookup C0 = some (excClassObj nm0 q0 C0 N0 bs0 bm0 true sn0 sub0 ab0 col0 dd0 m00 m10 m20 m30 m50 "ValueError.__new__"))
    (xm0 : PySem.HandSPX.refsVE bm0 = true)
    (xs0 : PySem.W.findIn K (.ref C0) "__setattr__" = some (some (.builtin "object.__setattr__")))
    (xe0 : PySem.W.subIn K (.ref C0) (.type "BaseException") = some true)
    (xt0 : PySem.W.typeIn K (.ref C0) = some (.type "type"))
    (xk0 : PySem.W.keepIn K (.ref C0) = true)
    (xn0 : PySem.W.findIn K (.ref C0) "fault" = some none)
    (xg0 : PySem.W.findIn K (.ref C0) "__getattribute__" = some (some (.builtin "BaseException.__getattribute__")))
    (xh0 : PySem.W.findIn K (.ref C0) "__getattr__" = some none)
    (xd0 : PySem.W.hasDictIn K C0 = true)
    (xi0 : PySem.W.findIn K (.ref C0) "__init__" = some (some (.ref I0)))
    (xu0 : PySem.W.typeIn K (.ref I0) = some (.type "function"))
    (xf0 : K.lookup I0 = some ⟨oce0, ode0, .func (PySem.W.fnOf "__init__" "NoLock.__init__" (defArgs (inClass (top 2) 0)) (defBody (inClass (top 2) 0)) (defScope (inClass (top 2) 0)) .none kVe0 dce0 pme0 ane0 cde0 cte0), sle0⟩)
    (xc0 : PySem.W.codeIn K cde0 "NoLock.__init__" = true)
    (xa1 : PySem.W.nsIn K mainGlobals "NoText" = some (some (.ref C1)))
    (xl1 : K.lookup C1 = some (excClassObj nm1 q1 C1 N1 bs1 bm1 true sn1 sub1 ab1 col1 dd1 m01 m11 m21 m31 m51 "ValueError.__new__"))
    (xm1 : PySem.HandSPX.refsVE bm1 = true)
    (xs1 : PySem.W.findIn K (.ref C1) "__setattr__" = some (some (.builtin "object.__setattr__")))
    (xe1 : PySem.W.subIn K (.ref C1) (.type "BaseException") = some true)
    (xt1 : PySem.W.typeIn K (.ref C1) = some (.type "type"))
    (xk1 : PySem.W.keepIn K (.ref C1) = true)
    (xn1 : PySem.W.findIn K (.ref C1) "row" = some none)
    (xg1 : PySem.W.findIn K (.ref C1) "__getattribute__" = some (some (.builtin "BaseException.__getattribute__")))
    (xh1 : PySem.W.findIn K (.ref C1) "__getattr__" = some none)
    (xd1 : PySem.W.hasDictIn K C1 = true)
    (xi1 : PySem.W.findIn K (.ref C1) "__init__" = some (some (.ref I1)))
    (xu1 : PySem.W.typeIn K (.ref I1) = some (.type "function"))
    (xf1 : K.lookup I1 = some ⟨oce1, ode1, .func (PySem.W.fnOf "__init__" "NoText.__init__" (defArgs (inClass (top 3) 0)) (defBody (inClass (top 3) 0)) (defScope (inClass (top 3) 0)) .none kVe1 dce1 pme1 ane1 cde1 cte1), sle1⟩)
    (xc1 : PySem.W.codeIn K cde1 "NoText.__init__" = true)
    (y0_0 : PySem.W.exmOne K (.ref C0) (.ref C0) = some true)
    (y0_1 : PySem.W.exmOne K (.ref C1) (.ref C0) = some false)
    (y1_0 : PySem.W.exmOne K (.ref C0) (.ref C1) = some false)
    (y1_1 : PySem.W.exmOne K (.ref C1) (.ref C1) = some true)
    : ∃ (T : Tab) (fd : FuncData), (∀ (s : Shared) (u : Value), K.In s.heap → BindsTo s fd ⟨[u], []⟩ [("_law_script", u)]) ∧ ∀ base : Heap, K.In base → base.Ns mainGlobals mg → FnG P w K mg base (L2N.CX P w) (12 + 2) fa fd ["_law_script"] (spF T K 1 (denT tab 12 "law")) := by
  refine top_law (tab := tab) (ge := ge) (fe := f_law) (T := ⟨fun x => ([("NoLock", C0), ("NoText", C1)] : List (Str × Addr)).lookup x, fun x => ((([("NoLock", "fault"), ("NoText", "row")] : List (Str × Str)).lookup x).getD "")⟩) 12 (top_at ?_ ?_ ?_ ?_ ?_ ?_) (by unfold tab; simp) (by rfl) rfl rfl hfa
  · exact List.forall_mem_cons.mpr ⟨fn_in X G s_is_whole b_is_whole a0 l0 c0 k0,
    List.forall_mem_cons.mpr ⟨fn_in X G s_is_from b_is_from a1 l1 c1 k1,
    List.forall_mem_cons.mpr ⟨fn_in X G s_is_tuple b_is_tuple a2 l2 c2 k2,
    List.forall_mem_cons.mpr ⟨fn_in X G s_is_word b_is_word a3 l3 c3 k3,
    List.forall_mem_cons.mpr ⟨fn_in X G s_are_rising b_are_rising a4 l4 c4 k4,
    List.forall_mem_cons.mpr ⟨fn_in X G s_is_gap b_is_gap a5 l5 c5 k5,
    List.forall_mem_cons.mpr ⟨fn_in X G s_is_bolt b_is_bolt a6 l6 c6 k6,
    List.forall_mem_cons.mpr ⟨fn_in X G s_ways_of b_ways_of a7 l7 c7 k7,
    List.forall_mem_cons.mpr ⟨fn_in X G s_first_wide b_first_wide a8 l8 c8 k8,
    List.forall_mem_cons.mpr ⟨fn_in X G s_fault_of b_fault_of a9 l9 c9 k9,
    List.forall_mem_cons.mpr ⟨fn_in X G s_is_lock b_is_lock a10 l10 c10 k10,
    List.forall_mem_cons.mpr ⟨fn_in X G s_must_be_lock b_must_be_lock a11 l11 c11 k11,
    List.forall_mem_cons.mpr ⟨fn_in X G s_number_in b_number_in a12 l12 c12 k12,
    List.forall_mem_cons.mpr ⟨fn_inK X G s_word_in b_word_in a13 l13 c13 k13 (List.forall_mem_cons.mpr ⟨⟨_, d13_0, rfl⟩, fun _ z => absurd z List.not_mem_nil⟩),
    List.forall_mem_cons.mpr ⟨fn_in X G s_show_word b_show_word a14 l14 c14 k14,
    List.forall_mem_cons.mpr ⟨fn_in X G s_rows_of b_rows_of a15 l15 c15 k15,
    List.forall_mem_cons.mpr ⟨fn_in X G s_thing_in b_thing_in a16 l16 c16 k16,
    List.forall_mem_cons.mpr ⟨fn_in X G s_row_in b_row_in a17 l17 c17 k17,
    List.forall_mem_cons.mpr ⟨fn_in X G s_show_lock b_show_lock a18 l18 c18 k18,
    List.forall_mem_cons.mpr ⟨fn_in X G s_may_come b_may_come a19 l19 c19 k19,
    List.forall_mem_cons.mpr ⟨fn_in X G s_read_lock b_read_lock a20 l20 c20 k20,
    List.forall_mem_cons.mpr ⟨fn_in X G s__law_pen b__law_pen a21 l21 c21 k21,
    List.forall_mem_cons.mpr ⟨fn_in X G s__law_draw b__law_draw a22 l22 c22 k22,
    List.forall_mem_cons.mpr ⟨fn_in X G s__law_pick b__law_pick a23 l23 c23 k23,
    List.forall_mem_cons.mpr ⟨fn_in X G s__law_gaps b__law_gaps a24 l24 c24 k24,
    List.forall_mem_cons.mpr ⟨fn_in X G s__law_lock b__law_lock a25 l25 c25 k25,
    List.forall_mem_cons.mpr ⟨fn_in X G s__law_sizes b__law_sizes a26 l26 c26 k26,
    List.forall_mem_cons.mpr ⟨fn_in X G s__law_great b__law_great a27 l27 c27 k27,
    List.forall_mem_cons.mpr ⟨fn_in X G s__law_tied b__law_tied a28 l28 c28 k28,
    List.forall_mem_cons.mpr ⟨fn_in X G s__law_show_word b__law_show_word a29 l29 c29 k29,
    List.forall_mem_cons.mpr ⟨fn_in X G s__law_show_lock b__law_show_lock a30 l30 c30 k30,
    List.forall_mem_cons.mpr ⟨fn_in X G s__law_fault b__law_fault a31 l31 c31 k31,
    List.forall_mem_cons.mpr ⟨fn_in X G s_law b_law a32 l32 c32 k32,
    fun _ z => absurd z List.not_mem_nil⟩⟩⟩⟩⟩⟩⟩⟩⟩⟩⟩⟩⟩⟩⟩⟩⟩⟩⟩⟩⟩⟩⟩⟩⟩⟩⟩⟩⟩⟩⟩⟩⟩
  · exact List.forall_mem_cons.mpr ⟨PySem.W.mg_none_of X G n0,
    List.forall_mem_cons.mpr ⟨PySem.W.mg_none_of X G n1,
    List.forall_mem_cons.mpr ⟨PySem.W.mg_none_of X G n2,
    List.forall_mem_cons.mpr ⟨PySem.W.mg_none_of X G n3,
    List.forall_mem_cons.mpr ⟨PySem.W.mg_none_of X G n4,
    List.forall_mem_cons.mpr ⟨PySem.W.mg_none_of X G n5,
    List.forall_mem_cons.mpr ⟨PySem.W.mg_none_of X G n6,
    List.forall_mem_cons.mpr ⟨PySem.W.mg_none_of X G n7,
    List.forall_mem_cons.mpr ⟨PySem.W.mg_none_of X G n8,
    List.forall_mem_cons.mpr ⟨PySem.W.mg_none_of X G n9,
    List.forall_mem_cons.mpr ⟨PySem.W.mg_none_of X G n10,
    List.forall_mem_cons.mpr ⟨PySem.W.mg_none_of X G n11,
    List.forall_mem_cons.mpr ⟨PySem.W.mg_none_of X G n12,
    List.forall_mem_cons.mpr ⟨PySem.W.mg_none_of X G n13,
    List.forall_mem_cons.mpr ⟨PySem.W.mg_none_of X G n14,
    List.forall_mem_cons.mpr ⟨PySem.W.mg_none_of X G n15,
    List.forall_mem_cons.mpr ⟨PySem.W.mg_none_of X G n16,
    List.forall_mem_cons.mpr ⟨PySem.W.mg_none_of X G n17,
    List.forall_mem_cons.mpr ⟨PySem.W.mg_none_of X G n18,
    List.forall_mem_cons.mpr ⟨PySem.W.mg_none_of X G n19,
    fun _ z => absurd z List.not_mem_nil⟩⟩⟩⟩⟩⟩⟩⟩⟩⟩⟩⟩⟩⟩⟩⟩⟩⟩⟩⟩
  · exact List.forall_mem_cons.mpr ⟨con_int X G v0,
    List.forall_mem_cons.mpr ⟨con_int X G v1,
    List.forall_mem_cons.mpr ⟨con_int X G v2,
    List.forall_mem_cons.mpr ⟨con_int X G v3,
    List.forall_mem_cons.mpr ⟨con_str X G v4,
    List.forall_mem_cons.mpr ⟨con_int X G v5,
    List.forall_mem_cons.mpr ⟨con_int X G v6,
    List.forall_mem_cons.mpr ⟨con_str X G v7,
    List.forall_mem_cons.mpr ⟨con_str X G v8,
    fun _ z => absurd z List.not_mem_nil⟩⟩⟩⟩⟩⟩⟩⟩⟩
  · exact List.forall_mem_cons.mpr ⟨⟨ta0, PySem.W.mg_of X G ta_0, ⟨⟨te0, tn0, tl_0, tk_0, te_0⟩, to_0⟩⟩,
    fun _ z => absurd z List.not_mem_nil⟩
  · exact List.forall_mem_cons.mpr ⟨⟨C0, exc_in (st := (inClass (top 2) 0)) (b := "BoltError") (x := "NoLock") (f := "fault") X G rfl ⟨rfl, rfl, rfl, by decide +kernel, rfl, by decide +kernel, by decide +kernel⟩ (by decide +kernel) rfl rfl rfl (by decide +kernel) (by decide +kernel) (by decide +kernel) (fun kV doc pm an cdv ct us hl => match us, hl with | [_, _], _ => rfl) (fun env => ⟨_, rfl⟩) xa0 aB xl0 xm0 xs0 xe0 xt0 xk0 xn0 xg0 xh0 xd0 xi0 xu0 xf0 xc0 hsB hrB hfB, rfl, rfl⟩,
    List.forall_mem_cons.mpr ⟨⟨C1, exc_in (st := (inClass (top 3) 0)) (b := "BoltError") (x := "NoText") (f := "row") X G rfl ⟨rfl, rfl, rfl, by decide +kernel, rfl, by decide +kernel, by decide +kernel⟩ (by decide +kernel) rfl rfl rfl (by decide +kernel) (by decide +kernel) (by decide +kernel) (fun kV doc pm an cdv ct us hl => match us, hl with | [_, _], _ => rfl) (fun env => ⟨_, rfl⟩) xa1 aB xl1 xm1 xs1 xe1 xt1 xk1 xn1 xg1 xh1 xd1 xi1 xu1 xf1 xc1 hsB hrB hfB, rfl, rfl⟩,
    fun _ z => absurd z List.not_mem_nil⟩⟩
  · exact List.forall_mem_cons.mpr ⟨⟨_, PySem.W.mg_of X G xa0, subs_of [("NoLock", C0, true), ("NoText", C1, false)] (List.forall_mem_cons.mpr ⟨y0_0, List.forall_mem_cons.mpr ⟨y0_1, fun _ z => absurd z List.not_mem_nil⟩⟩)⟩,
    List.forall_mem_cons.mpr ⟨⟨_, PySem.W.mg_of X G xa1, subs_of [("NoLock", C0, false), ("NoText", C1, true)] (List.forall_mem_cons.mpr ⟨y1_0, List.forall_mem_cons.mpr ⟨y1_1, fun _ z => absurd z List.not_mem_nil⟩⟩)⟩,
    fun _ z => absurd z List.not_mem_nil⟩⟩
--HOLES ?a0 ?l0 ?c0 ?k0 ?a1 ?l1 ?c1 ?k1 ?a2 ?l2 ?c2 ?k2 ?a3 ?l3 ?c3 ?k3 ?a4 ?l4 ?c4 ?k4 ?a5 ?l5 ?c5 ?k5 ?a6 ?l6 ?c6 ?k6 ?a7 ?l7 ?c7 ?k7 ?a8 ?l8 ?c8 ?k8 ?a9 ?l9 ?c9 ?k9 ?a10 ?l10 ?c10 ?k10 ?a11 ?l11 ?c11 ?k11 ?a12 ?l12 ?c12 ?k12 ?a13 ?l13 ?c13 ?k13 ?d13_0 ?a14 ?l14 ?c14 ?k14 ?a15 ?l15 ?c15 ?k15 ?a16 ?l16 ?c16 ?k16 ?a17 ?l17 ?c17 ?k17 ?a18 ?l18 ?c18 ?k18 ?a19 ?l19 ?c19 ?k19 ?a20 ?l20 ?c20 ?k20 ?a21 ?l21 ?c21 ?k21 ?a22 ?l22 ?c22 ?k22 ?a23 ?l23 ?c23 ?k23 ?a24 ?l24 ?c24 ?k24 ?a25 ?l25 ?c25 ?k25 ?a26 ?l26 ?c26 ?k26 ?a27 ?l27 ?c27 ?k27 ?a28 ?l28 ?c28 ?k28 ?a29 ?l29 ?c29 ?k29 ?a30 ?l30 ?c30 ?k30 ?a31 ?l31 ?c31 ?k31 ?a32 ?l32 ?c32 ?k32 ?n0 ?n1 ?n2 ?n3 ?n4 ?n5 ?n6 ?n7 ?n8 ?n9 ?n10 ?n11 ?n12 ?n13 ?n14 ?n15 ?n16 ?n17 ?n18 ?n19 ?v0 ?v1 ?v2 ?v3 ?v4 ?v5 ?v6 ?v7 ?v8 ?ta_0 ?tl_0 ?tk_0 ?te_0 ?to_0 ?aB ?hsB ?hrB ?hfB ?xa0 ?xl0 ?xm0 ?xs0 ?xe0 ?xt0 ?xk0 ?xn0 ?xg0 ?xh0 ?xd0 ?xi0 ?xu0 ?xf0 ?xc0 ?xa1 ?xl1 ?xm1 ?xs1 ?xe1 ?xt1 ?xk1 ?xn1 ?xg1 ?xh1 ?xd1 ?xi1 ?xu1 ?xf1 ?xc1 ?y0_0 ?y0_1 ?y1_0 ?y1_1
--CASES (case a0 => first | k_is | rfl); (case l0 => first | k_is | rfl); (case c0 => first | k_is | rfl); (case k0 => first | k_is | rfl); (case a1 => first | k_is | rfl); (case l1 => first | k_is | rfl); (case c1 => first | k_is | rfl); (case k1 => first | k_is | rfl); (case a2 => first | k_is | rfl); (case l2 => first | k_is | rfl); (case c2 => first | k_is | rfl); (case k2 => first | k_is | rfl); (case a3 => first | k_is | rfl); (case l3 => first | k_is | rfl); (case c3 => first | k_is | rfl); (case k3 => first | k_is | rfl); (case a4 => first | k_is | rfl); (case l4 => first | k_is | rfl); (case c4 => first | k_is | rfl); (case k4 => first | k_is | rfl); (case a5 => first | k_is | rfl); (case l5 => first | k_is | rfl); (case c5 => first | k_is | rfl); (case k5 => first | k_is | rfl); (case a6 => first | k_is | rfl); (case l6 => first | k_is | rfl); (case c6 => first | k_is | rfl); (case k6 => first | k_is | rfl); (case a7 => first | k_is | rfl); (case l7 => first | k_is | rfl); (case c7 => first | k_is | rfl); (case k7 => first | k_is | rfl); (case a8 => first | k_is | rfl); (case l8 => first | k_is | rfl); (case c8 => first | k_is | rfl); (case k8 => first | k_is | rfl); (case a9 => first | k_is | rfl); (case l9 => first | k_is | rfl); (case c9 => first | k_is | rfl); (case k9 => first | k_is | rfl); (case a10 => first | k_is | rfl); (case l10 => first | k_is | rfl); (case c10 => first | k_is | rfl); (case k10 => first | k_is | rfl); (case a11 => first | k_is | rfl); (case l11 => first | k_is | rfl); (case c11 => first | k_is | rfl); (case k11 => first | k_is | rfl); (case a12 => first | k_is | rfl); (case l12 => first | k_is | rfl); (case c12 => first | k_is | rfl); (case k12 => first | k_is | rfl); (case a13 => first | k_is | rfl); (case l13 => first | k_is | rfl); (case c13 => first | k_is | rfl); (case k13 => first | k_is | rfl); (case d13_0 => first | k_is | rfl); (case a14 => first | k_is | rfl); (case l14 => first | k_is | rfl); (case c14 => first | k_is | rfl); (case k14 => first | k_is | rfl); (case a15 => first | k_is | rfl); (case l15 => first | k_is | rfl); (case c15 => first | k_is | rfl); (case k15 => first | k_is | rfl); (case a16 => first | k_is | rfl); (case l16 => first | k_is | rfl); (case c16 => first | k_is | rfl); (case k16 => first | k_is | rfl); (case a17 => first | k_is | rfl); (case l17 => first | k_is | rfl); (case c17 => first | k_is | rfl); (case k17 => first | k_is | rfl); (case a18 => first | k_is | rfl); (case l18 => first | k_is | rfl); (case c18 => first | k_is | rfl); (case k18 => first | k_is | rfl); (case a19 => first | k_is | rfl); (case l19 => first | k_is | rfl); (case c19 => first | k_is | rfl); (case k19 => first | k_is | rfl); (case a20 => first | k_is | rfl); (case l20 => first | k_is | rfl); (case c20 => first | k_is | rfl); (case k20 => first | k_is | rfl); (case a21 => first | k_is | rfl); (case l21 => first | k_is | rfl); (case c21 => first | k_is | rfl); (case k21 => first | k_is | rfl); (case a22 => first | k_is | rfl); (case l22 => first | k_is | rfl); (case c22 => first | k_is | rfl); (case k22 => first | k_is | rfl); (case a23 => first | k_is | rfl); (case l23 => first | k_is | rfl); (case c23 => first | k_is | rfl); (case k23 => first | k_is | rfl); (case a24 => first | k_is | rfl); (case l24 => first | k_is | rfl); (case c24 => first | k_is | rfl); (case k24 => first | k_is | rfl); (case a25 => first | k_is | rfl); (case l25 => first | k_is | rfl); (case c25 => first | k_is | rfl); (case k25 => first | k_is | rfl); (case a26 => first | k_is | rfl); (case l26 => first | k_is | rfl); (case c26 => first | k_is | rfl); (case k26 => first | k_is | rfl); (case a27 => first | k_is | rfl); (case l27 => first | k_is | rfl); (case c27 => first | k_is | rfl); (case k27 => first | k_is | rfl); (case a28 => first | k_is | rfl); (case l28 => first | k_is | rfl); (case c28 => first | k_is | rfl); (case k28 => first | k_is | rfl); (case a29 => first | k_is | rfl); (case l29 => first | k_is | rfl); (case c29 => first | k_is | rfl); (case k29 => first | k_is | rfl); (case a30 => first | k_is | rfl); (case l30 => first | k_is | rfl); (case c30 => first | k_is | rfl); (case k30 => first | k_is | rfl); (case a31 => first | k_is | rfl); (case l31 => first | k_is | rfl); (case c31 => first | k_is | rfl); (case k31 => first | k_is | rfl); (case a32 => first | k_is | rfl); (case l32 => first | k_is | rfl); (case c32 => first | k_is | rfl); (case k32 => first | k_is | rfl); (case n0 => first | k_is | rfl); (case n1 => first | k_is | rfl); (case n2 => first | k_is | rfl); (case n3 => first | k_is | rfl); (case n4 => first | k_is | rfl); (case n5 => first | k_is | rfl); (case n6 => first | k_is | rfl); (case n7 => first | k_is | rfl); (case n8 => first | k_is | rfl); (case n9 => first | k_is | rfl); (case n10 => first | k_is | rfl); (case n11 => first | k_is | rfl); (case n12 => first | k_is | rfl); (case n13 => first | k_is | rfl); (case n14 => first | k_is | rfl); (case n15 => first | k_is | rfl); (case n16 => first | k_is | rfl); (case n17 => first | k_is | rfl); (case n18 => first | k_is | rfl); (case n19 => first | k_is | rfl); (case v0 => first | k_is | rfl); (case v1 => first | k_is | rfl); (case v2 => first | k_is | rfl); (case v3 => first | k_is | rfl); (case v4 => first | k_is | rfl); (case v5 => first | k_is | rfl); (case v6 => first | k_is | rfl); (case v7 => first | k_is | rfl); (case v8 => first | k_is | rfl); (case ta_0 => first | k_is | rfl); (case tl_0 => first | k_is | rfl); (case tk_0 => (repeat first | exact trivial | exact ⟨⟨_, _, rfl, rfl⟩, trivial⟩ | refine ⟨⟨_, _, rfl, rfl⟩, ?_⟩)); (case te_0 => (repeat first | exact .nil | refine .cons rfl rfl ?_)); (case to_0 => decide); (case aB => first | k_is | rfl); (case hsB => first | k_is | rfl); (case hrB => first | k_is | rfl); (case hfB => first | k_is | rfl); (case xa0 => first | k_is | rfl); (case xl0 => first | k_is | rfl); (case xm0 => first | rfl | decide +kernel | k_is); (case xs0 => first | k_is | rfl); (case xe0 => first | k_is | rfl); (case xt0 => first | k_is | rfl); (case xk0 => first | k_is | rfl); (case xn0 => first | k_is | rfl); (case xg0 => first | k_is | rfl); (case xh0 => first | k_is | rfl); (case xd0 => first | k_is | rfl); (case xi0 => first | k_is | rfl); (case xu0 => first | k_is | rfl); (case xf0 => first | k_is | rfl); (case xc0 => first | k_is | rfl); (case xa1 => first | k_is | rfl); (case xl1 => first | k_is | rfl); (case xm1 => first | rfl | decide +kernel | k_is); (case xs1 => first | k_is | rfl); (case xe1 => first | k_is | rfl); (case xt1 => first | k_is | rfl); (case xk1 => first | k_is | rfl); (case xn1 => first | k_is | rfl); (case xg1 => first | k_is | rfl); (case xh1 => first | k_is | rfl); (case xd1 => first | k_is | rfl); (case xi1 => first | k_is | rfl); (case xu1 => first | k_is | rfl); (case xf1 => first | k_is | rfl); (case xc1 => first | k_is | rfl); (case y0_0 => first | k_is | rfl); (case y0_1 => first | k_is | rfl); (case y1_0 => first | k_is | rfl); (case y1_1 => first | k_is | rfl)
theorem has : HasL tab where
  W := ⟨rfl, rfl, rfl, rfl, rfl, rfl, rfl, rfl, rfl, rfl⟩
  T := ⟨rfl, rfl, rfl, rfl, rfl, rfl⟩
  R := ⟨rfl, rfl, rfl⟩
  S := ⟨rfl, rfl⟩
  D := ⟨rfl, rfl⟩
  G := ⟨rfl, rfl, rfl, rfl, rfl⟩
  pen := rfl
  fault := rfl
  show_lock := rfl
  must_be_lock := rfl
  law := rfl
theorem law_den (ns : List Int) (h : ns.length ≤ 63) : ∃ fin, denT tab 12 "law" [.val (.list (ns.map PySem.PyData.int))] = .ok (.val (.bool true)) fin := law_all has 0 ns h
end K83
end MP

set_option Elab.async false
set_option linter.all false
set_option maxRecDepth 100000
set_option maxHeartbeats 0
open_top head for PySem.Challenge.rw_waitbolts_k83_locks_written_and_read
open PySem PySem.W PyProof.Rows in
theorem PySem.Challenge.cw_waitbolts_k83_locks_written_and_read_holds : PySem.Challenge.rw_waitbolts_k83_locks_written_and_read.Holds := by
  w_on; o_law; k_head; (case hw => w_witness2)
  k_fill
  refine MP.walk_G (l := PySem.Challenge.rw_waitbolts_k83_locks_written_and_read) (n := 63) (k := 12 + 2) (x := "_law_script") (den := MP.denT MP.K83.tab 12 "law") rfl (by decide) rfl ⟨rfl, by decide, by decide⟩ (fun w h Y => PySem.W.kIn_of Y) ?F MP.K83.law_den
  case F =>
    intro w mg fa h KX G hmg
    refine' MP.K83.all_mk KX G hmg ?a0 ?l0 ?c0 ?k0 ?a1 ?l1 ?c1 ?k1 ?a2 ?l2 ?c2 ?k2 ?a3 ?l3 ?c3 ?k3 ?a4 ?l4 ?c4 ?k4 ?a5 ?l5 ?c5 ?k5 ?a6 ?l6 ?c6 ?k6 ?a7 ?l7 ?c7 ?k7 ?a8 ?l8 ?c8 ?k8 ?a9 ?l9 ?c9 ?k9 ?a10 ?l10 ?c10 ?k10 ?a11 ?l11 ?c11 ?k11 ?a12 ?l12 ?c12 ?k12 ?a13 ?l13 ?c13 ?k13 ?d13_0 ?a14 ?l14 ?c14 ?k14 ?a15 ?l15 ?c15 ?k15 ?a16 ?l16 ?c16 ?k16 ?a17 ?l17 ?c17 ?k17 ?a18 ?l18 ?c18 ?k18 ?a19 ?l19 ?c19 ?k19 ?a20 ?l20 ?c20 ?k20 ?a21 ?l21 ?c21 ?k21 ?a22 ?l22 ?c22 ?k22 ?a23 ?l23 ?c23 ?k23 ?a24 ?l24 ?c24 ?k24 ?a25 ?l25 ?c25 ?k25 ?a26 ?l26 ?c26 ?k26 ?a27 ?l27 ?c27 ?k27 ?a28 ?l28 ?c28 ?k28 ?a29 ?l29 ?c29 ?k29 ?a30 ?l30 ?c30 ?k30 ?a31 ?l31 ?c31 ?k31 ?a32 ?l32 ?c32 ?k32 ?n0 ?n1 ?n2 ?n3 ?n4 ?n5 ?n6 ?n7 ?n8 ?n9 ?n10 ?n11 ?n12 ?n13 ?n14 ?n15 ?n16 ?n17 ?n18 ?n19 ?v0 ?v1 ?v2 ?v3 ?v4 ?v5 ?v6 ?v7 ?v8 ?ta_0 ?tl_0 ?tk_0 ?te_0 ?to_0 ?aB ?hsB ?hrB ?hfB ?xa0 ?xl0 ?xm0 ?xs0 ?xe0 ?xt0 ?xk0 ?xn0 ?xg0 ?xh0 ?xd0 ?xi0 ?xu0 ?xf0 ?xc0 ?xa1 ?xl1 ?xm1 ?xs1 ?xe1 ?xt1 ?xk1 ?xn1 ?xg1 ?xh1 ?xd1 ?xi1 ?xu1 ?xf1 ?xc1 ?y0_0 ?y0_1 ?y1_0 ?y1_1
    (case a0 => first | k_is | rfl)
    (case l0 => first | k_is | rfl)
    (case c0 => first | k_is | rfl)
    (case k0 => first | k_is | rfl)
    (case a1 => first | k_is | rfl)
    (case l1 => first | k_is | rfl)
    (case c1 => first | k_is | rfl)
    (case k1 => first | k_is | rfl)
    (case a2 => first | k_is | rfl)
    (case l2 => first | k_is | rfl)
    (case c2 => first | k_is | rfl)
    (case k2 => first | k_is | rfl)
    (case a3 => first | k_is | rfl)
    (case l3 => first | k_is | rfl)
    (case c3 => first | k_is | rfl)
    (case k3 => first | k_is | rfl)
    (case a4 => first | k_is | rfl)
    (case l4 => first | k_is | rfl)
    (case c4 => first | k_is | rfl)
    (case k4 => first | k_is | rfl)
    (case a5 => first | k_is | rfl)
    (case l5 => first | k_is | rfl)
    (case c5 => first | k_is | rfl)
    (case k5 => first | k_is | rfl)
    (case a6 => first | k_is | rfl)
    (case l6 => first | k_is | rfl)
    (case c6 => first | k_is | rfl)
    (case k6 => first | k_is | rfl)
    (case a7 => first | k_is | rfl)
    (case l7 => first | k_is | rfl)
    (case c7 => first | k_is | rfl)
    (case k7 => first | k_is | rfl)
    (case a8 => first | k_is | rfl)
    (case l8 => first | k_is | rfl)
    (case c8 => first | k_is | rfl)
    (case k8 => first | k_is | rfl)
    (case a9 => first | k_is | rfl)
    (case l9 => first | k_is | rfl)
    (case c9 => first | k_is | rfl)
    (case k9 => first | k_is | rfl)
    (case a10 => first | k_is | rfl)
    (case l10 => first | k_is | rfl)
    (case c10 => first | k_is | rfl)
    (case k10 => first | k_is | rfl)
    (case a11 => first | k_is | rfl)
    (case l11 => first | k_is | rfl)
    (case c11 => first | k_is | rfl)
    (case k11 => first | k_is | rfl)
    (case a12 => first | k_is | rfl)
    (case l12 => first | k_is | rfl)
    (case c12 => first | k_is | rfl)
    (case k12 => first | k_is | rfl)
    (case a13 => first | k_is | rfl)
    (case l13 => first | k_is | rfl)
    (case c13 => first | k_is | rfl)
    (case k13 => first | k_is | rfl)
    (case d13_0 => first | k_is | rfl)
    (case a14 => first | k_is | rfl)
    (case l14 => first | k_is | rfl)
    (case c14 => first | k_is | rfl)
    (case k14 => first | k_is | rfl)
    (case a15 => first | k_is | rfl)
    (case l15 => first | k_is | rfl)
    (case c15 => first | k_is | rfl)
    (case k15 => first | k_is | rfl)
    (case a16 => first | k_is | rfl)
    (case l16 => first | k_is | rfl)
    (case c16 => first | k_is | rfl)
    (case k16 => first | k_is | rfl)
    (case a17 => first | k_is | rfl)
    (case l17 => first | k_is | rfl)
    (case c17 => first | k_is | rfl)
    (case k17 => first | k_is | rfl)
    (case a18 => first | k_is | rfl)
    (case l18 => first | k_is | rfl)
    (case c18 => first | k_is | rfl)
    (case k18 => first | k_is | rfl)
    (case a19 => first | k_is | rfl)
    (case l19 => first | k_is | rfl)
    (case c19 => first | k_is | rfl)
    (case k19 => first | k_is | rfl)
    (case a20 => first | k_is | rfl)
    (case l20 => first | k_is | rfl)
    (case c20 => first | k_is | rfl)
    (case k20 => first | k_is | rfl)
    (case a21 => first | k_is | rfl)
    (case l21 => first | k_is | rfl)
    (case c21 => first | k_is | rfl)
    (case k21 => first | k_is | rfl)
    (case a22 => first | k_is | rfl)
    (case l22 => first | k_is | rfl)
    (case c22 => first | k_is | rfl)
    (case k22 => first | k_is | rfl)
    (case a23 => first | k_is | rfl)
    (case l23 => first | k_is | rfl)
    (case c23 => first | k_is | rfl)
    (case k23 => first | k_is | rfl)
    (case a24 => first | k_is | rfl)
    (case l24 => first | k_is | rfl)
    (case c24 => first | k_is | rfl)
    (case k24 => first | k_is | rfl)
    (case a25 => first | k_is | rfl)
    (case l25 => first | k_is | rfl)
    (case c25 => first | k_is | rfl)
    (case k25 => first | k_is | rfl)
    (case a26 => first | k_is | rfl)
    (case l26 => first | k_is | rfl)
    (case c26 => first | k_is | rfl)
    (case k26 => first | k_is | rfl)
    (case a27 => first | k_is | rfl)
    (case l27 => first | k_is | rfl)
    (case c27 => first | k_is | rfl)
    (case k27 => first | k_is | rfl)
    (case a28 => first | k_is | rfl)
    (case l28 => first | k_is | rfl)
    (case c28 => first | k_is | rfl)
    (case k28 => first | k_is | rfl)
    (case a29 => first | k_is | rfl)
    (case l29 => first | k_is | rfl)
    (case c29 => first | k_is | rfl)
    (case k29 => first | k_is | rfl)
    (case a30 => first | k_is | rfl)
    (case l30 => first | k_is | rfl)
    (case c30 => first | k_is | rfl)
    (case k30 => first | k_is | rfl)
    (case a31 => first | k_is | rfl)
    (case l31 => first | k_is | rfl)
    (case c31 => first | k_is | rfl)
    (case k31 => first | k_is | rfl)
    (case a32 => first | k_is | rfl)
    (case l32 => first | k_is | rfl)
    (case c32 => first | k_is | rfl)
    (case k32 => first | k_is | rfl)
    (case n0 => first | k_is | rfl)
    (case n1 => first | k_is | rfl)
    (case n2 => first | k_is | rfl)
    (case n3 => first | k_is | rfl)
    (case n4 => first | k_is | rfl)
    (case n5 => first | k_is | rfl)
    (case n6 => first | k_is | rfl)
    (case n7 => first | k_is | rfl)
    (case n8 => first | k_is | rfl)
    (case n9 => first | k_is | rfl)
    (case n10 => first | k_is | rfl)
    (case n11 => first | k_is | rfl)
    (case n12 => first | k_is | rfl)
    (case n13 => first | k_is | rfl)
    (case n14 => first | k_is | rfl)
    (case n15 => first | k_is | rfl)
    (case n16 => first | k_is | rfl)
    (case n17 => first | k_is | rfl)
    (case n18 => first | k_is | rfl)
    (case n19 => first | k_is | rfl)
    (case v0 => first | k_is | rfl)
    (case v1 => first | k_is | rfl)
    (case v2 => first | k_is | rfl)
    (case v3 => first | k_is | rfl)
    (case v4 => first | k_is | rfl)
    (case v5 => first | k_is | rfl)
    (case v6 => first | k_is | rfl)
    (case v7 => first | k_is | rfl)
    (case v8 => first | k_is | rfl)
    (case ta_0 => first | k_is | rfl)
    (case tl_0 => first | k_is | rfl)
    (case tk_0 => (repeat first | exact trivial | exact ⟨⟨_, _, rfl, rfl⟩, trivial⟩ | refine ⟨⟨_, _, rfl, rfl⟩, ?_⟩))
    (case te_0 => (repeat first | exact .nil | refine .cons rfl rfl ?_))
    (case to_0 => decide)
    (case aB => first | k_is | rfl)
    (case hsB => first | k_is | rfl)
    (case hrB => first | k_is | rfl)
    (case hfB => first | k_is | rfl)
    (case xa0 => first | k_is | rfl)
    (case xl0 => first | k_is | rfl)
    (case xm0 => first | rfl | decide +kernel | k_is)
    (case xs0 => first | k_is | rfl)
    (case xe0 => first | k_is | rfl)
    (case xt0 => first | k_is | rfl)
    (case xk0 => first | k_is | rfl)
    (case xn0 => first | k_is | rfl)
    (case xg0 => first | k_is | rfl)
    (case xh0 => first | k_is | rfl)
    (case xd0 => first | k_is | rfl)
    (case xi0 => first | k_is | rfl)
    (case xu0 => first | k_is | rfl)
    (case xf0 => first | k_is | rfl)
    (case xc0 => first | k_is | rfl)
    (case xa1 => first | k_is | rfl)
    (case xl1 => first | k_is | rfl)
    (case xm1 => first | rfl | decide +kernel | k_is)
    (case xs1 => first | k_is | rfl)
    (case xe1 => first | k_is | rfl)
    (case xt1 => first | k_is | rfl)
    (case xk1 => first | k_is | rfl)
    (case xn1 => first | k_is | rfl)
    (case xg1 => first | k_is | rfl)
    (case xh1 => first | k_is | rfl)
    (case xd1 => first | k_is | rfl)
    (case xi1 => first | k_is | rfl)
    (case xu1 => first | k_is | rfl)
    (case xf1 => first | k_is | rfl)
    (case xc1 => first | k_is | rfl)
    (case y0_0 => first | k_is | rfl)
    (case y0_1 => first | k_is | rfl)
    (case y1_0 => first | k_is | rfl)
    (case y1_1 => first | k_is | rfl)
