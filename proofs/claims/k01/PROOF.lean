import PyProof.Rows.All
import Wide.All
import OpenK.AllK
import Wide.FinOn
import HandS.ForMost
import HandS.ForExc
import HandS.Walk
import HandS.IsInst
import HandS.ExcInit
import HandS.ExcField
import HandS.ExcIs
import HandS.Star
import HandS.Deep
import HandS.SortOrd
import HandS.TupAny
import HandS.CallSlots
import KE.DataCmp
import KE.SortKeyHeap
import HandS.SortKw
import KE.KIsAll
import HandS.Defaults
import HandS.SetKeys
import HandS.DictComp
import HandS.NoneIn
import HandS.More
import HandS.ClsMeth
import HandS.Property
import HandS.FStr
import PyProof.ExcBaseAll.OverflowError
import PyProof.ExcBaseAll.LookupError
import HandS.SlotsOwn
import HandS.CallLocal
import KE.KCallOwn
import KE.IntTextLaws
import HandS.RaiseMore
import HandS.MakeKwOnly
import HandS.ListItems
import PyProof.Rows.StrDigitsNeg
import PySem.Challenge.RW_linkfarms_k01_names_and_paths_of_any_val
set_option Elab.async false
set_option linter.all false
set_option maxRecDepth 100000
set_option maxHeartbeats 4000000
set_option autoImplicit false
/-! A layer of data: what an expression is worth as a tree, what a statement does to the names' trees -/
namespace DL
open PySem PySem.Spec PyProof.Rows L2

inductive D where
  | non | bl (b : Bool) | int (i : Int) | str (s : Str)
  | lst (l : List D) | tup (l : List D) | dic (l : List (Key × D)) | dit (l : List (List Key × D))
  | obj (C : Addr) (fs : List (Str × D))
  | hot (i : Nat)
  | cls (C : Addr)
  | ty (n : String)
  | exn (a dd : Addr) (fs : List (Str × D))
  | scr (l : List Int)
inductive HotO where
  | lst (l : List D) | dic (l : List (Key × D)) | dit (l : List (List Key × D)) | obj (C : Addr) (fs : List (Str × D)) | dead
abbrev Sto := List HotO
abbrev Env := List (Option D)
inductive Res (α : Type) where
  | ok (a : α) (S : Sto)
  | exc (C : Addr) (fs : List (Str × D)) (S : Sto)
  | bad
def Res.bind {α β : Type} (r : Res α) (k : α → Sto → Res β) : Res β := match r with
  | .ok a S => k a S
  | .exc C fs S => .exc C fs S
  | .bad => .bad
@[simp] theorem Res.bind_ok {α β : Type} (a : α) (S : Sto) (k : α → Sto → Res β) : (Res.ok a S).bind k = k a S := rfl
@[simp] theorem Res.bind_bad {α β : Type} (k : α → Sto → Res β) : (Res.bad : Res α).bind k = .bad := rfl
@[simp] theorem Res.bind_exc {α β : Type} (C : Addr) (fs : List (Str × D)) (S : Sto) (k : α → Sto → Res β) : (Res.exc C fs S : Res α).bind k = .exc C fs S := rfl
def lift {α : Type} (o : Option α) (S : Sto) : Res α := match o with
  | some a => .ok a S
  | none => .bad
@[simp] theorem lift_some {α : Type} (a : α) (S : Sto) : lift (some a) S = .ok a S := rfl
@[simp] theorem lift_none {α : Type} (S : Sto) : lift (none : Option α) S = .bad := rfl

mutual
def Rp (η : List Addr) (H : Hp) : D → V → Prop
  | .non, v => v = .non
  | .bl b, v => v = .bl b
  | .int i, v => v = .int i
  | .str s, v => v = .str s
  | .lst ds, v => ∃ a xs, v = .ref a ∧ H a = some (.lst xs) ∧ RpL η H ds xs
  | .tup ds, v => ∃ a xs, v = .ref a ∧ H a = some (.tup xs) ∧ RpL η H ds xs
  | .dic kvs, v => ∃ a o ws, v = .ref a ∧ H a = some (.frz o (.dK ws)) ∧ RpK η H kvs ws
  | .dit kvs, v => ∃ a o ws, v = .ref a ∧ H a = some (.frz o (.dT ws)) ∧ RpT η H kvs ws
  | .obj C fs, v => ∃ a dx ws, v = .ref a ∧ H a = some (.ins C dx ws) ∧ RpF η H fs ws
  | .hot i, v => ∃ a, v = .ref a ∧ η[i]? = some a
  | .cls C, v => v = .ref C
  | .ty n, v => v = .ty n
  | .exn a dd fs, v => ∃ ws, v = .ref a ∧ H dd = some (.xd ws) ∧ RpF η H fs ws
  | .scr ns, v => ∃ a o, v = .ref a ∧ H a = some (.frz o (.lst (ns.map V.int)))
def RpL (η : List Addr) (H : Hp) : List D → List V → Prop
  | [], xs => xs = []
  | d :: ds, xs => ∃ v vs, xs = v :: vs ∧ Rp η H d v ∧ RpL η H ds vs
def RpK (η : List Addr) (H : Hp) : List (Key × D) → List (Key × V) → Prop
  | [], ws => ws = []
  | (k, d) :: ds, ws => ∃ v vs, ws = (k, v) :: vs ∧ Rp η H d v ∧ RpK η H ds vs
def RpT (η : List Addr) (H : Hp) : List (List Key × D) → List (List Key × V) → Prop
  | [], ws => ws = []
  | (k, d) :: ds, ws => ∃ v vs, ws = (k, v) :: vs ∧ Rp η H d v ∧ RpT η H ds vs
def RpF (η : List Addr) (H : Hp) : List (Str × D) → List (Str × V) → Prop
  | [], ws => ws = []
  | (k, d) :: ds, ws => ∃ v vs, ws = (k, v) :: vs ∧ Rp η H d v ∧ RpF η H ds vs
end
/-- a dict -/
def isDc : HO → Prop
  | .dK _ => True
  | .dT _ => True
  | _ => False
/-- all stands -/
def Le (H H' : Hp) : Prop := Same H H'
theorem Le.of {H H' : Hp} (h : Same H H') : Le H H' := h
/-- more hot objects -/
def Up (η η' : List Addr) : Prop := ∀ (i : Nat) (a : Addr), η[i]? = some a → η'[i]? = some a
theorem Up.refl (η : List Addr) : Up η η := fun _ _ h => h
section
variable {η η' : List Addr} {H H' : Hp}
mutual
theorem Rp.le (h : Le H H') (u : Up η η') : ∀ (d : D) {v : V}, Rp η H d v → Rp η' H' d v
  | .non, _, r => r
  | .bl _, _, r => r
  | .int _, _, r => r
  | .str _, _, r => r
  | .lst ds, _, ⟨a, xs, e, q, r⟩ => ⟨a, xs, e, h _ _ q, RpL.le h u ds r⟩
  | .tup ds, _, ⟨a, xs, e, q, r⟩ => ⟨a, xs, e, h _ _ q, RpL.le h u ds r⟩
  | .dic ds, _, ⟨a, o, ws, e, q, r⟩ => ⟨a, o, ws, e, h _ _ q, RpK.le h u ds r⟩
  | .dit ds, _, ⟨a, o, ws, e, q, r⟩ => ⟨a, o, ws, e, h _ _ q, RpT.le h u ds r⟩
  | .obj C fs, _, ⟨a, dx, ws, e, q, r⟩ => ⟨a, dx, ws, e, h _ _ q, RpF.le h u fs r⟩
  | .hot i, _, ⟨a, e, q⟩ => ⟨a, e, u i a q⟩
  | .cls _, _, r => r
  | .ty _, _, r => r
  | .exn a dd fs, _, ⟨ws, e, q, r⟩ => ⟨ws, e, h _ _ q, RpF.le h u fs r⟩
  | .scr ns, _, ⟨a, o, e, q⟩ => ⟨a, o, e, h _ _ q⟩
theorem RpL.le (h : Le H H') (u : Up η η') : ∀ (ds : List D) {xs : List V}, RpL η H ds xs → RpL η' H' ds xs
  | [], _, r => r
  | d :: ds, _, ⟨v, vs, e, r, t⟩ => ⟨v, vs, e, Rp.le h u d r, RpL.le h u ds t⟩
theorem RpK.le (h : Le H H') (u : Up η η') : ∀ (ds : List (Key × D)) {xs : List (Key × V)}, RpK η H ds xs → RpK η' H' ds xs
  | [], _, r => r
  | (k, d) :: ds, _, ⟨v, vs, e, r, t⟩ => ⟨v, vs, e, Rp.le h u d r, RpK.le h u ds t⟩
theorem RpT.le (h : Le H H') (u : Up η η') : ∀ (ds : List (List Key × D)) {xs : List (List Key × V)}, RpT η H ds xs → RpT η' H' ds xs
  | [], _, r => r
  | (k, d) :: ds, _, ⟨v, vs, e, r, t⟩ => ⟨v, vs, e, Rp.le h u d r, RpT.le h u ds t⟩
theorem RpF.le (h : Le H H') (u : Up η η') : ∀ (ds : List (Str × D)) {xs : List (Str × V)}, RpF η H ds xs → RpF η' H' ds xs
  | [], _, r => r
  | (k, d) :: ds, _, ⟨v, vs, e, r, t⟩ => ⟨v, vs, e, Rp.le h u d r, RpF.le h u ds t⟩
end
theorem Rp.mono (h : Same H H') (d : D) {v : V} (r : Rp η H d v) : Rp η H' d v := Rp.le (.of h) (.refl η) d r
theorem RpL.mono (h : Same H H') (d : List D) {v : List V} (r : RpL η H d v) : RpL η H' d v := RpL.le (.of h) (.refl η) d r
theorem RpK.mono (h : Same H H') (d : List (Key × D)) {v : List (Key × V)} (r : RpK η H d v) : RpK η H' d v := RpK.le (.of h) (.refl η) d r
theorem RpT.mono (h : Same H H') (d : List (List Key × D)) {v : List (List Key × V)} (r : RpT η H d v) : RpT η H' d v := RpT.le (.of h) (.refl η) d r
theorem RpF.mono (h : Same H H') (d : List (Str × D)) {v : List (Str × V)} (r : RpF η H d v) : RpF η H' d v := RpF.le (.of h) (.refl η) d r
theorem RpL.length : ∀ {ds : List D} {xs : List V}, RpL η H ds xs → xs.length = ds.length
  | [], _, r => by rw [show _ = [] from r] <;> rfl
  | d :: ds, _, ⟨v, vs, e, r, t⟩ => by rw [e, List.length_cons, List.length_cons, RpL.length t]
theorem RpL.get : ∀ {ds : List D} {xs : List V}, RpL η H ds xs → ∀ {i : Nat} {x : V}, xs[i]? = some x → ∃ d, ds[i]? = some d ∧ Rp η H d x
  | [], _, r, i, x, e => by
    rw [show _ = [] from r] at e
    simp at e
  | d :: ds, _, ⟨v, vs, e, r, t⟩, 0, x, q => by
    rw [e] at q
    simp at q
    subst q
    exact ⟨d, rfl, r⟩
  | d :: ds, _, ⟨v, vs, e, r, t⟩, i + 1, x, q => by
    rw [e] at q
    exact RpL.get t (i := i) (x := x) (by simpa using q)
theorem RpL.got : ∀ {ds : List D} {xs : List V}, RpL η H ds xs → ∀ {i : Nat} {d : D}, ds[i]? = some d → ∃ x, xs[i]? = some x ∧ Rp η H d x
  | [], _, r, i, x, e => by simp at e
  | d :: ds, _, ⟨v, vs, e, r, t⟩, 0, x, q => by
    simp at q
    subst q
    exact ⟨v, by rw [e]; rfl, r⟩
  | d :: ds, _, ⟨v, vs, e, r, t⟩, i + 1, x, q => by
    obtain ⟨y, h1, h2⟩ := RpL.got t (i := i) (d := x) (by simpa using q)
    exact ⟨y, by rw [e]; simpa using h1, h2⟩
theorem RpL.snoc : ∀ {ds : List D} {xs : List V} {d : D} {v : V}, RpL η H ds xs → Rp η H d v → RpL η H (ds ++ [d]) (xs ++ [v])
  | [], _, d, v, r, q => by
    rw [show _ = [] from r]
    exact ⟨v, [], rfl, q, rfl⟩
  | e :: ds, _, d, v, ⟨w, vs, ew, r, t⟩, q => by
    rw [ew]
    exact ⟨w, vs ++ [v], rfl, r, RpL.snoc t q⟩
theorem RpL.append : ∀ {ds es : List D} {xs ys : List V}, RpL η H ds xs → RpL η H es ys → RpL η H (ds ++ es) (xs ++ ys)
  | [], _, _, _, r, q => by
    rw [show _ = [] from r]
    exact q
  | e :: ds, _, _, _, ⟨w, vs, ew, r, t⟩, q => by
    rw [ew]
    exact ⟨w, _, rfl, r, RpL.append t q⟩
theorem RpL.take : ∀ {ds : List D} {xs : List V} (n : Nat), RpL η H ds xs → RpL η H (ds.take n) (xs.take n)
  | [], _, n, r => by
    rw [show _ = [] from r]
    simp [RpL]
  | e :: ds, _, 0, r => rfl
  | e :: ds, _, n + 1, ⟨w, vs, ew, r, t⟩ => by
    rw [ew]
    exact ⟨w, _, rfl, r, RpL.take n t⟩
theorem RpL.drop : ∀ {ds : List D} {xs : List V} (n : Nat), RpL η H ds xs → RpL η H (ds.drop n) (xs.drop n)
  | [], _, n, r => by
    rw [show _ = [] from r]
    simp [RpL]
  | e :: ds, _, 0, r => r
  | e :: ds, _, n + 1, ⟨w, vs, ew, r, t⟩ => by
    rw [ew]
    exact RpL.drop n t
theorem RpL.strs : ∀ {ss : List Str} {xs : List V}, RpL η H (ss.map D.str) xs → xs = ss.map V.str
  | [], _, r => r
  | s :: ss, _, ⟨w, vs, ew, r, t⟩ => by rw [ew, show w = V.str s from r, RpL.strs t] <;> rfl
theorem RpL.of_strs : ∀ (ss : List Str), RpL η H (ss.map D.str) (ss.map V.str)
  | [] => rfl
  | s :: ss => ⟨_, _, rfl, rfl, RpL.of_strs ss⟩
end

/-- H without what stands at B -/
def cold (B : List Addr) (H : Hp) : Hp := fun a => if a ∈ B then none else H a
theorem cold_of {B : List Addr} {H : Hp} {a : Addr} {o : HO} (h : cold B H a = some o) : H a = some o ∧ a ∉ B := by
  unfold cold at h
  by_cases e : a ∈ B
  · rw [if_pos e] at h; cases h
  · rw [if_neg e] at h; exact ⟨h, e⟩
theorem cold_in {B : List Addr} {H : Hp} {a : Addr} {o : HO} (h : H a = some o) (n : a ∉ B) : cold B H a = some o := by
  unfold cold; rw [if_neg n]; exact h
theorem cold_le {B : List Addr} {H : Hp} : Same (cold B H) H := fun _ _ h => (cold_of h).1
theorem cold_sub {B B' : List Addr} {H : Hp} (h : ∀ a ∈ B, a ∈ B') : Same (cold B' H) (cold B H) := fun a o e => by
  obtain ⟨e1, e2⟩ := cold_of e
  exact cold_in e1 fun z => e2 (h a z)
theorem cold_rd {B : List Addr} {H : Hp} {a : Addr} {u : HO} (h : L2.Rd (cold B H) a u) : L2.Rd H a u := by
  rcases h with h | ⟨o, h⟩
  · exact .inl (cold_of h).1
  · exact .inr ⟨o, (cold_of h).1⟩

def HotRel (η : List Addr) (Hc H : Hp) (a : Addr) : HotO → Prop
  | .lst ds => ∃ xs, H a = some (.lst xs) ∧ RpL η Hc ds xs
  | .dic kvs => ∃ ws, H a = some (.dK ws) ∧ RpK η Hc kvs ws
  | .dit kvs => ∃ ws, H a = some (.dT ws) ∧ RpT η Hc kvs ws
  | .obj C fs => ∃ dx ws, H a = some (.ins C dx ws) ∧ RpF η Hc fs ws
  | .dead => True
/-- where one stands: η the addresses of the hot objects, B ⊇ η all that is hidden -/
structure Wd (η B : List Addr) (S : Sto) (H : Hp) : Prop where
  sub : ∀ a ∈ η, a ∈ B
  live : ∀ b ∈ B, H b ≠ none
  nd : η.Nodup
  len : η.length = S.length
  hot : ∀ (i : Nat) (a : Addr) (o : HotO), η[i]? = some a → S[i]? = some o → HotRel η (cold B H) H a o
/-- some steps on: hot objects may have come -/
structure Nx (η B η' B' : List Addr) (S' : Sto) (H H' : Hp) : Prop where
  wd : Wd η' B' S' H'
  up : Up η η'
  s0 : ∀ a ∈ η, a ∈ B
  nw : ∀ a ∈ η', a ∈ η ∨ H a = none
  fr : ∀ b ∈ B', b ∈ B ∨ H b = none
  sb : ∀ b ∈ B, b ∈ B'
  kp : ∀ a o, a ∉ η → H a = some o → H' a = some o
section
variable {η B η' B' η'' B'' : List Addr} {S S' S'' : Sto} {H H' H'' : Hp}
theorem Wd.refl (w : Wd η B S H) : Nx η B η B S H H := ⟨w, .refl η, w.sub, fun _ h => .inl h, fun _ h => .inl h, fun _ h => h, fun _ _ _ e => e⟩
theorem Up.trans (a : Up η η') (b : Up η' η'') : Up η η'' := fun i x h => b i x (a i x h)
theorem Nx.back (n : Nx η B η' B' S' H H') {p : Addr} (h : H' p = none) : H p = none := by
  cases q : H p with
  | none => rfl
  | some o =>
    by_cases e : p ∈ η
    · exact absurd h (n.wd.live p (n.sb p (n.s0 p e)))
    · rw [n.kp p o e q] at h; cases h
theorem Nx.trans (a : Nx η B η' B' S' H H') (b : Nx η' B' η'' B'' S'' H' H'') : Nx η B η'' B'' S'' H H'' :=
  ⟨b.wd, a.up.trans b.up, a.s0, fun x hx => by
    rcases b.nw x hx with h | h
    · exact a.nw x h
    · exact .inr (a.back h), fun x hx => by
    rcases b.fr x hx with h | h
    · exact a.fr x h
    · exact .inr (a.back h), fun x hx => b.sb x (a.sb x hx), fun x o n e => b.kp x o (fun hx => by
      rcases a.nw x hx with h | h
      · exact n h
      · rw [h] at e; cases e) (a.kp x o n e)⟩
theorem Nx.same (n : Nx η B η' B' S' H H') : Same (cold B H) (cold B' H') := fun x o e => by
  obtain ⟨e1, e2⟩ := cold_of e
  exact cold_in (n.kp x o (fun z => e2 (n.s0 x z)) e1) fun z => by
    rcases n.fr x z with h | h
    · exact e2 h
    · rw [h] at e1; cases e1
theorem Nx.rp (n : Nx η B η' B' S' H H') {d : D} {v : V} (r : Rp η (cold B H) d v) : Rp η' (cold B' H') d v := Rp.le (.of n.same) n.up d r
theorem Nx.rpL (n : Nx η B η' B' S' H H') {d : List D} {v : List V} (r : RpL η (cold B H) d v) : RpL η' (cold B' H') d v := RpL.le (.of n.same) n.up d r
theorem Nx.rpK (n : Nx η B η' B' S' H H') {d : List (Key × D)} {v : List (Key × V)} (r : RpK η (cold B H) d v) : RpK η' (cold B' H') d v := RpK.le (.of n.same) n.up d r
theorem Nx.rpT (n : Nx η B η' B' S' H H') {d : List (List Key × D)} {v : List (List Key × V)} (r : RpT η (cold B H) d v) : RpT η' (cold B' H') d v := RpT.le (.of n.same) n.up d r
theorem Nx.rpF (n : Nx η B η' B' S' H H') {d : List (Str × D)} {v : List (Str × V)} (r : RpF η (cold B H) d v) : RpF η' (cold B' H') d v := RpF.le (.of n.same) n.up d r
theorem Wd.fresh (w : Wd η B S H) {p : Addr} (h : H p = none) : p ∉ B := fun z => w.live p z h
theorem HotRel.le {Hc Hc' : Hp} {a : Addr} {o : HotO} (h : Le Hc Hc') (u : Up η η') (e : ∀ u, H a = some u → H' a = some u) (r : HotRel η Hc H a o) : HotRel η' Hc' H' a o := by
  cases o with
  | lst ds => obtain ⟨xs, q, t⟩ := r; exact ⟨xs, e _ q, RpL.le h u _ t⟩
  | dic ds => obtain ⟨xs, q, t⟩ := r; exact ⟨xs, e _ q, RpK.le h u _ t⟩
  | dit ds => obtain ⟨xs, q, t⟩ := r; exact ⟨xs, e _ q, RpT.le h u _ t⟩
  | obj C ds => obtain ⟨dx, xs, q, t⟩ := r; exact ⟨dx, xs, e _ q, RpF.le h u _ t⟩
  | dead => trivial
theorem HotRel.mono {Hc Hc' : Hp} {a : Addr} {o : HotO} (h : Same Hc Hc') (e : ∀ u, H a = some u → H' a = some u) (r : HotRel η Hc H a o) : HotRel η Hc' H' a o := r.le (.of h) (.refl η) e
/-- all that was tracked stands -/
theorem Wd.grow (w : Wd η B S H) (h : Same H H') : Nx η B η B S H H' := by
  have hc : Same (cold B H) (cold B H') := fun x o e => by
    obtain ⟨e1, e2⟩ := cold_of e
    exact cold_in (h x o e1) e2
  refine ⟨⟨w.sub, fun b hb z => ?_, w.nd, w.len, fun i a o hi ho => (w.hot i a o hi ho).mono hc fun u q => h _ _ q⟩, .refl η, w.sub, fun _ h => .inl h, fun _ h => .inl h, fun _ h => h, fun a o _ e => h a o e⟩
  cases q : H b with
  | none => exact w.live b hb q
  | some u => rw [h b u q] at z; cases z
theorem same_new {H : Hp} {p : Addr} {o : HO} (h : H p = none) : Same H (upd H p o) := fun b x e => by
  rw [upd_ne (ne_of_none e h)]
  exact e
theorem Wd.new (w : Wd η B S H) {p : Addr} {o : HO} (h : H p = none) : Nx η B η B S H (upd H p o) := w.grow (same_new h)
theorem Wd.cold_new (w : Wd η B S H) {p : Addr} {o : HO} (h : H p = none) : cold B (upd H p o) p = some o := cold_in upd_same (w.fresh h)
end
/-- the names' slots -/
def Sl (η : List Addr) (Hc : Hp) (σ : L2.St) (ρ : Env) : Prop := σ.length = ρ.length ∧ ∀ (i : Nat) (d : D), ρ[i]? = some (some d) → ∃ v, σ[i]? = some (some v) ∧ Rp η Hc d v
theorem Sl.le {η η' : List Addr} {H H' : Hp} {σ : L2.St} {ρ : Env} (h : Le H H') (u : Up η η') (s : Sl η H σ ρ) : Sl η' H' σ ρ := ⟨s.1, fun i d e => by
  obtain ⟨v, e1, r⟩ := s.2 i d e
  exact ⟨v, e1, Rp.le h u d r⟩⟩
theorem Sl.mono {η : List Addr} {H H' : Hp} {σ : L2.St} {ρ : Env} (h : Same H H') (s : Sl η H σ ρ) : Sl η H' σ ρ := s.le (.of h) (.refl η)
theorem Nx.sl {η B η' B' : List Addr} {S' : Sto} {H H' : Hp} (n : Nx η B η' B' S' H H') {σ : L2.St} {ρ : Env} (s : Sl η (cold B H) σ ρ) : Sl η' (cold B' H') σ ρ := s.le (.of n.same) n.up
theorem Sl.set {η : List Addr} {H : Hp} {σ : L2.St} {ρ : Env} {i : Nat} {d : D} {v : V} (s : Sl η H σ ρ) (r : Rp η H d v) : Sl η H (σ.set i (some v)) (ρ.set i (some d)) := by
  refine ⟨by rw [List.length_set, List.length_set]; exact s.1, fun j e h => ?_⟩
  by_cases hj : i = j
  · subst hj
    by_cases hl : i < ρ.length
    · rw [List.getElem?_set_self hl] at h
      cases h
      exact ⟨v, List.getElem?_set_self (by rw [s.1]; exact hl), r⟩
    · rw [List.getElem?_eq_none (by rw [List.length_set]; omega)] at h
      cases h
  · rw [List.getElem?_set_ne hj] at h
    obtain ⟨u, e1, q⟩ := s.2 j e h
    exact ⟨u, by rw [List.getElem?_set_ne hj]; exact e1, q⟩

/-! ### judgements -/
/-- T (a reading at one place) gives r -/
def Ev {α β : Type} (R : List Addr → Hp → α → β → Prop) (η B : List Addr) (E : XK) (T : (β → Hp → Prop) → Prop) (H : Hp) : Res α → Prop
  | .ok a S' => ∀ Q : β → Hp → Prop, (∀ b η' B' H', Nx η B η' B' S' H H' → R η' (cold B' H') a b → Q b H') → T Q
  | .exc C fs S' => ∀ Q : β → Hp → Prop, (∀ dd ws η' B' H', Nx η B η' B' S' H H' → H dd = none → cold B' H' dd = some (.xd ws) → RpF η' (cold B' H') fs ws → E (.ref C) (some dd) H') → T Q
  | .bad => True
theorem Ev.bind {α β α' β' : Type} {R : List Addr → Hp → α → β → Prop} {R' : List Addr → Hp → α' → β' → Prop} {η B : List Addr} {E : XK} {T : (β → Hp → Prop) → Prop} {T' : β → Hp → (β' → Hp → Prop) → Prop} {H : Hp} {r : Res α} {k : α → Sto → Res α'}
    (h : Ev R η B E T H r) (hk : ∀ a S1 b η1 B1 H1, Nx η B η1 B1 S1 H H1 → R η1 (cold B1 H1) a b → Ev R' η1 B1 E (T' b H1) H1 (k a S1)) : Ev R' η B E (fun Q => T fun b H1 => T' b H1 Q) H (r.bind k) := by
  cases r with
  | bad => trivial
  | exc C fs S1 => exact fun Q q => h _ q
  | ok a S1 =>
    show Ev R' η B E _ H (k a S1)
    cases e : k a S1 with
    | bad => trivial
    | ok a2 S2 =>
      intro Q q
      refine h _ fun b η1 B1 H1 n1 r1 => ?_
      have z := hk a S1 b η1 B1 H1 n1 r1
      rw [e] at z
      exact z Q fun b2 η2 B2 H2 n2 r2 => q b2 η2 B2 H2 (n1.trans n2) r2
    | exc C fs S2 =>
      intro Q q
      refine h _ fun b η1 B1 H1 n1 r1 => ?_
      have z := hk a S1 b η1 B1 H1 n1 r1
      rw [e] at z
      exact z Q fun dd ws η2 B2 H2 n2 hd h2 f2 => q dd ws η2 B2 H2 (n1.trans n2) (n1.back hd) h2 f2
theorem Ev.now {α β : Type} {R : List Addr → Hp → α → β → Prop} {η B : List Addr} {E : XK} {H : Hp} {S : Sto} {a : α} {b : β} (w : Wd η B S H) (r : R η (cold B H) a b) : Ev R η B E (fun Q => Q b H) H (.ok a S) := fun Q q => q b η B H w.refl r
abbrev EvD (η B : List Addr) (E : XK) (T : VK → Prop) (H : Hp) : Res D → Prop := Ev (fun η Hc d v => Rp η Hc d v) η B E T H
abbrev EvA (η B : List Addr) (E : XK) (T : (List V → Hp → Prop) → Prop) (H : Hp) : Res (List D) → Prop := Ev (fun η Hc d v => RpL η Hc d v) η B E T H
abbrev EvT (η B : List Addr) (E : XK) (T : (Bool → Hp → Prop) → Prop) (H : Hp) : Res Bool → Prop := Ev (fun _ _ b c => b = c) η B E T H
abbrev EK := L2.St → XK
def SoE (E : EK) (t : TE) (F : Env → Sto → Res D) : Prop := ∀ η B S σ ρ H, Wd η B S H → Sl η (cold B H) σ ρ → EvD η B (E σ) (t σ H) H (F ρ S)
def SoA (E : EK) (t : TA) (F : Env → Sto → Res (List D)) : Prop := ∀ η B S σ ρ H, Wd η B S H → Sl η (cold B H) σ ρ → EvA η B (E σ) (t σ H) H (F ρ S)
def SoT (E : EK) (t : TT) (F : Env → Sto → Res Bool) : Prop := ∀ η B S σ ρ H, Wd η B S H → Sl η (cold B H) σ ρ → EvT η B (E σ) (t σ H) H (F ρ S)
def DE (X : Cx) (E : EK) (e : Expr) (t : TE) (F : Env → Sto → Res D) : Prop := PE X e t ∧ SoE E t F
def DA (X : Cx) (E : EK) (es : List Expr) (t : TA) (F : Env → Sto → Res (List D)) : Prop := PA X es t ∧ SoA E t F
def DT (X : Cx) (E : EK) (e : Expr) (t : TT) (F : Env → Sto → Res Bool) : Prop := PT X e t ∧ SoT E t F
def DW (X : Cx) (E : EK) (e : Expr) (t : TT) (F : Env → Sto → Res Bool) : Prop := PW X e t ∧ SoT E t F
/-! ### views: cold or hot -/
def vL (S : Sto) : D → Option (List D)
  | .lst l => some l
  | .hot i => match S[i]? with
    | some (.lst l) => some l
    | _ => none
  | _ => none
def vK (S : Sto) : D → Option (List (Key × D))
  | .dic l => some l
  | .hot i => match S[i]? with
    | some (.dic l) => some l
    | _ => none
  | _ => none
def vT (S : Sto) : D → Option (List (List Key × D))
  | .dit l => some l
  | .hot i => match S[i]? with
    | some (.dit l) => some l
    | _ => none
  | _ => none
def vO (S : Sto) : D → Option (Addr × List (Str × D))
  | .obj C l => some (C, l)
  | .hot i => match S[i]? with
    | some (.obj C l) => some (C, l)
    | _ => none
  | _ => none
@[simp] theorem vL_lst (S : Sto) (l : List D) : vL S (.lst l) = some l := rfl
@[simp] theorem vK_dic (S : Sto) (l : List (Key × D)) : vK S (.dic l) = some l := rfl
@[simp] theorem vT_dit (S : Sto) (l : List (List Key × D)) : vT S (.dit l) = some l := rfl
@[simp] theorem vO_obj (S : Sto) (C : Addr) (l : List (Str × D)) : vO S (.obj C l) = some (C, l) := rfl
section
variable {η B : List Addr} {S : Sto} {H : Hp} {d : D} {v : V}
theorem Wd.hotAt (w : Wd η B S H) {i : Nat} {o : HotO} (r : Rp η (cold B H) (.hot i) v) (h : S[i]? = some o) : ∃ a, v = .ref a ∧ η[i]? = some a ∧ HotRel η (cold B H) H a o := by
  obtain ⟨a, e, q⟩ := r
  exact ⟨a, e, q, w.hot i a o q h⟩
theorem Wd.seeL (w : Wd η B S H) {l : List D} (r : Rp η (cold B H) d v) (h : vL S d = some l) : ∃ a xs, v = .ref a ∧ H a = some (.lst xs) ∧ RpL η (cold B H) l xs := by
  cases d <;> first | (cases h; done) | skip
  · cases h
    obtain ⟨a, xs, e, q, t⟩ := r
    exact ⟨a, xs, e, (cold_of q).1, t⟩
  · unfold vL at h
    dsimp only at h
    split at h <;> cases h
    rename_i q
    obtain ⟨a, e, _, xs, t⟩ := w.hotAt r q
    exact ⟨a, xs, e, t⟩
theorem Wd.seeK (w : Wd η B S H) {l : List (Key × D)} (r : Rp η (cold B H) d v) (h : vK S d = some l) : ∃ a ws, v = .ref a ∧ L2.Rd H a (.dK ws) ∧ RpK η (cold B H) l ws := by
  cases d <;> first | (cases h; done) | skip
  · cases h
    obtain ⟨a, o, xs, e, q, t⟩ := r
    exact ⟨a, xs, e, .inr ⟨o, (cold_of q).1⟩, t⟩
  · unfold vK at h
    dsimp only at h
    split at h <;> cases h
    rename_i q
    obtain ⟨a, e, _, xs, t1, t⟩ := w.hotAt r q
    exact ⟨a, xs, e, .inl t1, t⟩
theorem Wd.seeT (w : Wd η B S H) {l : List (List Key × D)} (r : Rp η (cold B H) d v) (h : vT S d = some l) : ∃ a ws, v = .ref a ∧ L2.Rd H a (.dT ws) ∧ RpT η (cold B H) l ws := by
  cases d <;> first | (cases h; done) | skip
  · cases h
    obtain ⟨a, o, xs, e, q, t⟩ := r
    exact ⟨a, xs, e, .inr ⟨o, (cold_of q).1⟩, t⟩
  · unfold vT at h
    dsimp only at h
    split at h <;> cases h
    rename_i q
    obtain ⟨a, e, _, xs, t1, t⟩ := w.hotAt r q
    exact ⟨a, xs, e, .inl t1, t⟩
theorem Wd.seeO (w : Wd η B S H) {C : Addr} {l : List (Str × D)} (r : Rp η (cold B H) d v) (h : vO S d = some (C, l)) : ∃ a dx ws, v = .ref a ∧ H a = some (.ins C dx ws) ∧ RpF η (cold B H) l ws := by
  cases d <;> first | (cases h; done) | skip
  · cases h
    obtain ⟨a, dx, xs, e, q, t⟩ := r
    exact ⟨a, dx, xs, e, (cold_of q).1, t⟩
  · unfold vO at h
    dsimp only at h
    split at h <;> cases h
    rename_i q
    obtain ⟨a, e, _, dx, xs, t⟩ := w.hotAt r q
    exact ⟨a, dx, xs, e, t⟩
end
end DL
set_option Elab.async false
set_option linter.all false
set_option maxRecDepth 100000
set_option maxHeartbeats 4000000
set_option autoImplicit false
namespace DL
open PySem PySem.Spec PyProof.Rows L2
section
variable {X : Cx} {E : EK} {e a b c : Expr} {es : List Expr} {pos p : Pos} {Fa Fb Fc : Env → Sto → Res D} {ta tb tc : TE}
/-! ### names and constants -/
@[simp] def getD' (ρ : Env) (i : Nat) : Option D := (ρ[i]?).join
@[simp] def fVar (i : Nat) : Env → Sto → Res D := fun ρ S => lift (getD' ρ i) S
@[simp] def fC (d : D) : Env → Sto → Res D := fun _ S => .ok d S
theorem de_var (i : Nat) {x : Str} (hN : X.N[i]? = some x := by rfl) (hv : Vis X.env.scope x := by first | exact Or.inl rfl | exact Or.inr (Or.inl rfl) | exact Or.inr (Or.inr rfl)) (hd : (x == ("__debug__" : Str)) = false := by decide)
    (hcd : (x == ("__classdict__" : Str)) = false := by decide) : DE X E (.Name x pos) (tVar i) (fVar i) := by
  refine ⟨pv i hN hv hd hcd, fun η B S σ ρ H w s => ?_⟩
  show EvD η B (E σ) _ H (lift (getD' ρ i) S)
  cases q : getD' ρ i with
  | none => trivial
  | some d =>
    have q' : ρ[i]? = some (some d) := by
      unfold getD' at q
      cases z : ρ[i]? with
      | none => rw [z] at q; cases q
      | some y => rw [z] at q; exact congrArg some q
    obtain ⟨v, e1, r⟩ := s.2 i d q'
    exact fun Q k => ⟨v, e1, k v η B H w.refl r⟩
theorem de_of {t : TE} {d : D} {v : V} (h : PE X e (tC v)) (r : ∀ η H, Rp η H d v) : DE X E e (tC v) (fC d) :=
  ⟨h, fun η B S σ ρ H w s Q k => k v η B H w.refl (r η _)⟩
theorem de_int {i : Int} {j} : DE X E (.Constant (.int i) j pos) (tC (.int i)) (fC (.int i)) := de_of (t := tC (.int i)) pe_int fun _ _ => rfl
theorem de_str {x : Str} {j} : DE X E (.Constant (.str x) j pos) (tC (.str x)) (fC (.str x)) := de_of (t := tC (.str x)) pe_str fun _ _ => rfl
theorem de_bl {x : Bool} {j} : DE X E (.Constant (.bool x) j pos) (tC (.bl x)) (fC (.bl x)) := de_of (t := tC (.bl x)) pe_bl fun _ _ => rfl
theorem de_non {j} : DE X E (.Constant .none j pos) (tC .non) (fC .non) := de_of (t := tC .non) pe_non fun _ _ => rfl
theorem de_gInt {x : Str} {i : Int} {t : Tok} (hm : X.mg x = some (.int i t)) (hg : Gl X x := by rfl) (hd : (x == ("__debug__" : Str)) = false := by decide) : DE X E (.Name x pos) (tC (.int i)) (fC (.int i)) :=
  de_of (t := tC (.int i)) (pe_glob (v := .int i) hg hm ⟨_, rfl⟩ hd) fun _ _ => rfl
theorem de_gStr {x y : Str} {t : Tok} (hm : X.mg x = some (.str y t)) (hg : Gl X x := by rfl) (hd : (x == ("__debug__" : Str)) = false := by decide) : DE X E (.Name x pos) (tC (.str y)) (fC (.str y)) :=
  de_of (t := tC (.str y)) (pe_glob (v := .str y) hg hm ⟨_, rfl⟩ hd) fun _ _ => rfl
theorem de_gRef {x : Str} {f : Addr} (hm : X.mg x = some (.ref f)) (hg : Gl X x := by rfl) (hd : (x == ("__debug__" : Str)) = false := by decide) : DE X E (.Name x pos) (tC (.ref f)) (fC (.cls f)) :=
  de_of (t := tC (.ref f)) (pe_glob (v := .ref f) hg hm rfl hd) fun _ _ => rfl
theorem de_ty {x : Str} (n : String) (hm : X.mg x = none) (hv : bootBuiltins x = some (.type n)) (hg : Gl X x := by rfl) (hn : x ≠ "__name__" := by decide) (hd : (x == ("__debug__" : Str)) = false := by decide) : DE X E (.Name x pos) (tC (.ty n)) (fC (.ty n)) :=
  de_of (t := tC (.ty n)) (pe_bltn (v := .ty n) hg hm hv rfl hn hd) fun _ _ => rfl
/-! ### operators -/
def V2 (r : R2) (f : Sto → D → D → Option D) : Prop := ∀ (E : XK) (η B : List Addr) (S : Sto) (H : Hp) (x y : D) (u v : V), Wd η B S H → Rp η (cold B H) x u → Rp η (cold B H) y v → EvD η B E (r u v H) H (lift (f S x y) S)
@[simp] def bin (f : Sto → D → D → Option D) (Fa Fb : Env → Sto → Res D) : Env → Sto → Res D := fun ρ S => (Fa ρ S).bind fun x S1 => (Fb ρ S1).bind fun y S2 => lift (f S2 x y) S2
theorem ev_two {r : R2} {f : Sto → D → D → Option D} (hr : V2 r f) {η B : List Addr} {S : Sto} {σ : L2.St} {ρ : Env} {H : Hp} (w : Wd η B S H) (s : Sl η (cold B H) σ ρ)
    (ha : SoE E ta Fa) (hb : SoE E tb Fb) : EvD η B (E σ) (tOp r ta tb σ H) H (bin f Fa Fb ρ S) :=
  Ev.bind (T := ta σ H) (T' := fun x H1 Q => tb σ H1 fun y H2 => r x y H2 Q) (ha η B S σ ρ H w s) fun x S1 u η1 B1 H1 n1 r1 =>
    Ev.bind (T := tb σ H1) (T' := fun y H2 Q => r u y H2 Q) (hb η1 B1 S1 σ ρ H1 n1.wd (n1.sl s)) fun y S2 v η2 B2 H2 n2 r2 => hr (E σ) η2 B2 S2 H2 x y u v n2.wd (n2.rp r1) r2
theorem de_op {op} {r : R2} {f : Sto → D → D → Option D} (ho : OpR X (binaryOp op) r) (hr : V2 r f) (ha : DE X E a ta Fa) (hb : DE X E b tb Fb) : DE X E (.BinOp a op b pos) (tOp r ta tb) (bin f Fa Fb) := by
  obtain ⟨pa, ea⟩ := ha
  obtain ⟨pb, eb⟩ := hb
  exact ⟨pe_op ho pa pb, fun η B S σ ρ H w s => ev_two hr w s ea eb⟩
theorem de_cmp {op} {r : R2} {f : Sto → D → D → Option D} (ho : OpR X (compareOp op) r) (hr : V2 r f) (ha : DE X E a ta Fa) (hb : DE X E b tb Fb) (hm : behindInMarks op b = false) : DE X E (.Compare a [op] [b] pos) (tOp r ta tb) (bin f Fa Fb) := by
  obtain ⟨pa, ea⟩ := ha
  obtain ⟨pb, eb⟩ := hb
  exact ⟨pe_cmpR ho pa pb hm, fun η B S σ ρ H w s => ev_two hr w s ea eb⟩
/-! ### tests -/
@[simp] def asB : D → Option Bool
  | .bl b => some b
  | _ => none
@[simp] def tst (F : Env → Sto → Res D) : Env → Sto → Res Bool := fun ρ S => (F ρ S).bind fun d S1 => lift (asB d) S1
theorem dt_val (h : DE X E e ta Fa) (he : ∀ whole, isTrue e X.env whole = (do let v ← whole; standAt e.pos; holding [v] (truthy v)) := by intro _; rfl) : DT X E e (tB ta) (tst Fa) := by
  obtain ⟨p, q⟩ := h
  refine ⟨pt_val p he, fun η B S σ ρ H w s => ?_⟩
  refine Ev.bind (T := ta σ H) (T' := fun x H1 Q => ∃ k, x = .bl k ∧ Q k H1) (q η B S σ ρ H w s) fun d S1 v η1 B1 H1 n1 r1 => ?_
  cases d <;> first | trivial | exact fun Q k => ⟨_, r1, k _ η1 B1 H1 n1.wd.refl rfl⟩
/-- a comparison as a test -/
theorem dt_cmp {op} {r : R2} {f : Sto → D → D → Option D} (ho : OpR X (compareOp op) r) (hr : V2 r f) (ha : DE X E a ta Fa) (hb : DE X E b tb Fb) (hm : behindInMarks op b = false) : DT X E (.Compare a [op] [b] pos) (tTest (tOp r ta tb)) (tst (bin f Fa Fb)) := by
  obtain ⟨pa, ea⟩ := ha
  obtain ⟨pb, eb⟩ := hb
  refine ⟨pt_cmpR ho pa pb hm, fun η B S σ ρ H w s => ?_⟩
  refine Ev.bind (T := tOp r ta tb σ H) (T' := fun x H1 Q => ∃ k, x = .bl k ∧ Q k H1) (ev_two hr w s ea eb) fun d S1 v η1 B1 H1 n1 r1 => ?_
  cases d <;> first | trivial | exact fun Q k => ⟨_, r1, k _ η1 B1 H1 n1.wd.refl rfl⟩
@[simp] def notB (F : Env → Sto → Res Bool) : Env → Sto → Res Bool := fun ρ S => (F ρ S).bind fun b S1 => .ok (!b) S1
variable {Ta Tb : Env → Sto → Res Bool} {ua ub : TT} {rest : List Expr}
theorem dt_not (h : DT X E a ua Ta) : DT X E (.UnaryOp .Not a pos) (tNot ua) (notB Ta) := by
  obtain ⟨p, q⟩ := h
  refine ⟨pt_not p, fun η B S σ ρ H w s => ?_⟩
  refine Ev.bind (T := ua σ H) (T' := fun c H1 Q => Q (!c) H1) (q η B S σ ρ H w s) fun d S1 v η1 B1 H1 n1 r1 => ?_
  subst r1
  exact Ev.now n1.wd rfl
theorem dw_pt (h : DW X E e ua Ta) : DT X E e ua Ta := by
  obtain ⟨p, q⟩ := h
  exact ⟨PW.pt p, q⟩
@[simp] def orB (F G : Env → Sto → Res Bool) : Env → Sto → Res Bool := fun ρ S => (F ρ S).bind fun b S1 => if b = true then .ok true S1 else G ρ S1
@[simp] def andB (F G : Env → Sto → Res Bool) : Env → Sto → Res Bool := fun ρ S => (F ρ S).bind fun b S1 => if b = true then G ρ S1 else .ok false S1
theorem dw_or1 (h : DT X E a ua Ta) : DW X E (.BoolOp .Or [a] pos) ua Ta := by
  obtain ⟨p, q⟩ := h
  exact ⟨pw_or1 p, q⟩
theorem dw_and1 (h : DT X E a ua Ta) : DW X E (.BoolOp .And [a] pos) ua Ta := by
  obtain ⟨p, q⟩ := h
  exact ⟨pw_and1 p, q⟩
theorem dw_or (h : DT X E a ua Ta) (h2 : DW X E (.BoolOp .Or (b :: rest) pos) ub Tb) : DW X E (.BoolOp .Or (a :: b :: rest) pos) (tOr ua ub) (orB Ta Tb) := by
  obtain ⟨p, q⟩ := h
  obtain ⟨p2, q2⟩ := h2
  refine ⟨pw_or p p2, fun η B S σ ρ H w s => ?_⟩
  refine Ev.bind (T := ua σ H) (T' := fun c H1 Q => if c = true then Q true H1 else ub σ H1 Q) (q η B S σ ρ H w s) fun d S1 v η1 B1 H1 n1 r1 => ?_
  subst r1
  cases d with
  | true => exact fun Q k => k true η1 B1 H1 n1.wd.refl rfl
  | false => exact q2 η1 B1 S1 σ ρ H1 n1.wd (n1.sl s)
theorem dw_and (h : DT X E a ua Ta) (h2 : DW X E (.BoolOp .And (b :: rest) pos) ub Tb) : DW X E (.BoolOp .And (a :: b :: rest) pos) (tAnd ua ub) (andB Ta Tb) := by
  obtain ⟨p, q⟩ := h
  obtain ⟨p2, q2⟩ := h2
  refine ⟨pw_and p p2, fun η B S σ ρ H w s => ?_⟩
  refine Ev.bind (T := ua σ H) (T' := fun c H1 Q => if c = true then ub σ H1 Q else Q false H1) (q η B S σ ρ H w s) fun d S1 v η1 B1 H1 n1 r1 => ?_
  subst r1
  cases d with
  | false => exact fun Q k => k false η1 B1 H1 n1.wd.refl rfl
  | true => exact q2 η1 B1 S1 σ ρ H1 n1.wd (n1.sl s)
/-- a op b op' c -/
@[simp] def chn (f g : Sto → D → D → Option D) (Fa Fb Fc : Env → Sto → Res D) : Env → Sto → Res D := fun ρ S => (Fa ρ S).bind fun x S1 => (Fb ρ S1).bind fun y S2 => (lift (f S2 x y) S2).bind fun z S3 => (lift (asB z) S3).bind fun k S4 =>
  if k = true then (Fc ρ S4).bind fun u S5 => lift (g S5 y u) S5 else .ok (.bl false) S4
theorem ev_chain {r r' : R2} {f g : Sto → D → D → Option D} (hr : V2 r f) (hr' : V2 r' g) {η B : List Addr} {S : Sto} {σ : L2.St} {ρ : Env} {H : Hp} (w : Wd η B S H) (s : Sl η (cold B H) σ ρ)
    (ha : SoE E ta Fa) (hb : SoE E tb Fb)
    (hc : SoE E tc Fc) : EvD η B (E σ) (tChain r r' ta tb tc σ H) H (chn f g Fa Fb Fc ρ S) := by
  refine Ev.bind (T := ta σ H) (T' := fun x H1 Q => tb σ H1 fun y H2 => r x y H2 fun z H3 => ∃ k, z = .bl k ∧ (if k = true then tc σ H3 fun w' H4 => r' y w' H4 Q else Q (.bl false) H3)) (ha η B S σ ρ H w s) fun x S1 u η1 B1 H1 n1 r1 => ?_
  refine Ev.bind (T := tb σ H1) (T' := fun y H2 Q => r u y H2 fun z H3 => ∃ k, z = .bl k ∧ (if k = true then tc σ H3 fun w' H4 => r' y w' H4 Q else Q (.bl false) H3)) (hb η1 B1 S1 σ ρ H1 n1.wd (n1.sl s)) fun y S2 v η2 B2 H2 n2 r2 => ?_
  refine Ev.bind (T := r u v H2) (T' := fun z H3 Q => ∃ k, z = .bl k ∧ (if k = true then tc σ H3 fun w' H4 => r' v w' H4 Q else Q (.bl false) H3)) (hr (E σ) η2 B2 S2 H2 x y u v n2.wd (n2.rp r1) r2) fun z S3 z' η3 B3 H3 n3 r3 => ?_
  cases z <;> first | trivial | skip
  rename_i k
  obtain rfl : z' = .bl k := r3
  show EvD η3 B3 (E σ) _ H3 (if k = true then _ else _)
  cases k with
  | false => exact fun Q q => ⟨false, rfl, q _ η3 B3 H3 n3.wd.refl rfl⟩
  | true =>
    have z := Ev.bind (R := fun η Hc d v => Rp η Hc d v) (R' := fun η Hc d v => Rp η Hc d v) (T := tc σ H3) (T' := fun w' H4 Q => r' v w' H4 Q) (hc η3 B3 S3 σ ρ H3 n3.wd (n3.sl (n2.sl (n1.sl s)))) fun u' S5 v' η5 B5 H5 n5 r5 =>
      hr' (E σ) η5 B5 S5 H5 y u' v v' n5.wd (n5.rp (n3.rp r2)) r5
    show EvD η3 B3 (E σ) (fun Q => ∃ k, V.bl true = .bl k ∧ (if k = true then tc σ H3 fun w' H4 => r' v w' H4 Q else Q (.bl false) H3)) H3 ((Fc ρ S3).bind fun u S5 => lift (g S5 y u) S5)
    revert z
    generalize ((Fc ρ S3).bind fun u S5 => lift (g S5 y u) S5) = rr
    intro z
    cases rr with
    | bad => trivial
    | ok d S' => exact fun Q q => ⟨true, rfl, z Q q⟩
    | exc C fs S' => exact fun Q q => ⟨true, rfl, z Q q⟩
theorem de_chain {op op' : CmpOp} {r r' : R2} {f g : Sto → D → D → Option D} (ho : OpR X (compareOp op) r) (ho' : OpR X (compareOp op') r') (hr : V2 r f) (hr' : V2 r' g) (ha : DE X E a ta Fa) (hb : DE X E b tb Fb) (hc : DE X E c tc Fc) (hm : lastMarks [op, op'] [b, c] = false := by rfl) :
    DE X E (.Compare a [op, op'] [b, c] pos) (tChain r r' ta tb tc) (chn f g Fa Fb Fc) := by
  obtain ⟨pa, ea⟩ := ha
  obtain ⟨pb, eb⟩ := hb
  obtain ⟨pc, ec⟩ := hc
  exact ⟨pe_chain ho ho' pa pb pc hm, fun η B S σ ρ H w s => ev_chain hr hr' w s ea eb ec⟩
theorem dt_chain {op op' : CmpOp} {r r' : R2} {f g : Sto → D → D → Option D} (ho : OpR X (compareOp op) r) (ho' : OpR X (compareOp op') r') (hr : V2 r f) (hr' : V2 r' g) (ha : DE X E a ta Fa) (hb : DE X E b tb Fb) (hc : DE X E c tc Fc) (hm : lastMarks [op, op'] [b, c] = false := by rfl) :
    DT X E (.Compare a [op, op'] [b, c] pos) (tTest (tChain r r' ta tb tc)) (tst (chn f g Fa Fb Fc)) := by
  obtain ⟨pa, ea⟩ := ha
  obtain ⟨pb, eb⟩ := hb
  obtain ⟨pc, ec⟩ := hc
  refine ⟨pt_chain ho ho' pa pb pc hm, fun η B S σ ρ H w s => ?_⟩
  refine Ev.bind (T := tChain r r' ta tb tc σ H) (T' := fun x H1 Q => ∃ k, x = .bl k ∧ Q k H1) (ev_chain hr hr' w s ea eb ec) fun d S1 v η1 B1 H1 n1 r1 => ?_
  cases d <;> first | trivial | exact fun Q k => ⟨_, r1, k _ η1 B1 H1 n1.wd.refl rfl⟩
/-! ### boolean operators as values; a if t else b -/
@[simp] def orV (F G : Env → Sto → Res D) : Env → Sto → Res D := fun ρ S => (F ρ S).bind fun d S1 => (lift (asB d) S1).bind fun b S2 => if b = true then .ok (.bl true) S2 else G ρ S2
@[simp] def andV (F G : Env → Sto → Res D) : Env → Sto → Res D := fun ρ S => (F ρ S).bind fun d S1 => (lift (asB d) S1).bind fun b S2 => if b = true then G ρ S2 else .ok (.bl false) S2
theorem de_one {op} (h : DE X E a ta Fa) : DE X E (.BoolOp op [a] pos) ta Fa := by
  obtain ⟨p, q⟩ := h
  exact ⟨pe_one p, q⟩
theorem de_or (h : DE X E a ta Fa) (h2 : DE X E (.BoolOp .Or (b :: rest) pos) tb Fb) : DE X E (.BoolOp .Or (a :: b :: rest) pos) (tOrV ta tb) (orV Fa Fb) := by
  obtain ⟨p, q⟩ := h
  obtain ⟨p2, q2⟩ := h2
  refine ⟨pe_or p p2, fun η B S σ ρ H w s => ?_⟩
  refine Ev.bind (T := ta σ H) (T' := fun x H1 Q => ∃ c, x = .bl c ∧ if c = true then Q (.bl true) H1 else tb σ H1 Q) (q η B S σ ρ H w s) fun d S1 v η1 B1 H1 n1 r1 => ?_
  cases d <;> first | trivial | skip
  rename_i k
  obtain rfl : v = .bl k := r1
  cases k with
  | true => exact fun Q k => ⟨true, rfl, k _ η1 B1 H1 n1.wd.refl rfl⟩
  | false =>
    have z := q2 η1 B1 S1 σ ρ H1 n1.wd (n1.sl s)
    show EvD η1 B1 (E σ) _ H1 (Fb ρ S1)
    revert z
    generalize Fb ρ S1 = rr
    intro z
    cases rr with
    | bad => trivial
    | ok d S' => exact fun Q q => ⟨false, rfl, z Q q⟩
    | exc C fs S' => exact fun Q q => ⟨false, rfl, z Q q⟩
theorem de_and (h : DE X E a ta Fa) (h2 : DE X E (.BoolOp .And (b :: rest) pos) tb Fb) : DE X E (.BoolOp .And (a :: b :: rest) pos) (tAndV ta tb) (andV Fa Fb) := by
  obtain ⟨p, q⟩ := h
  obtain ⟨p2, q2⟩ := h2
  refine ⟨pe_and p p2, fun η B S σ ρ H w s => ?_⟩
  refine Ev.bind (T := ta σ H) (T' := fun x H1 Q => ∃ c, x = .bl c ∧ if c = true then tb σ H1 Q else Q (.bl false) H1) (q η B S σ ρ H w s) fun d S1 v η1 B1 H1 n1 r1 => ?_
  cases d <;> first | trivial | skip
  rename_i k
  obtain rfl : v = .bl k := r1
  cases k with
  | false => exact fun Q k => ⟨false, rfl, k _ η1 B1 H1 n1.wd.refl rfl⟩
  | true =>
    have z := q2 η1 B1 S1 σ ρ H1 n1.wd (n1.sl s)
    show EvD η1 B1 (E σ) _ H1 (Fb ρ S1)
    revert z
    generalize Fb ρ S1 = rr
    intro z
    cases rr with
    | bad => trivial
    | ok d S' => exact fun Q q => ⟨true, rfl, z Q q⟩
    | exc C fs S' => exact fun Q q => ⟨true, rfl, z Q q⟩
@[simp] def notV (F : Env → Sto → Res D) : Env → Sto → Res D := fun ρ S => (F ρ S).bind fun d S1 => (lift (asB d) S1).bind fun b S2 => .ok (.bl (!b)) S2
theorem de_not (h : DE X E a ta Fa) : DE X E (.UnaryOp .Not a pos) (tNotV ta) (notV Fa) := by
  obtain ⟨p, q⟩ := h
  refine ⟨pe_not p, fun η B S σ ρ H w s => ?_⟩
  refine Ev.bind (T := ta σ H) (T' := fun (x : V) (H1 : Hp) (Q : VK) => ∃ c, x = V.bl c ∧ Q (V.bl (!c)) H1) (q η B S σ ρ H w s) fun d S1 v η1 B1 H1 n1 r1 => ?_
  cases d <;> first | trivial | exact fun Q k => ⟨_, r1, k _ η1 B1 H1 n1.wd.refl rfl⟩
@[simp] def ifV (T : Env → Sto → Res Bool) (F G : Env → Sto → Res D) : Env → Sto → Res D := fun ρ S => (T ρ S).bind fun b S1 => if b = true then F ρ S1 else G ρ S1
theorem de_if (hc : DT X E c ua Ta) (ha : DE X E a ta Fa) (hb : DE X E b tb Fb) : DE X E (.IfExp c a b pos) (tIf ua ta tb) (ifV Ta Fa Fb) := by
  obtain ⟨pc, qc⟩ := hc
  obtain ⟨pa, qa⟩ := ha
  obtain ⟨pb, qb⟩ := hb
  refine ⟨pe_ifExp pc pa pb, fun η B S σ ρ H w s => ?_⟩
  refine Ev.bind (T := ua σ H) (T' := fun c H1 Q => if c = true then ta σ H1 Q else tb σ H1 Q) (qc η B S σ ρ H w s) fun d S1 v η1 B1 H1 n1 r1 => ?_
  subst r1
  cases d with
  | true => exact qa η1 B1 S1 σ ρ H1 n1.wd (n1.sl s)
  | false => exact qb η1 B1 S1 σ ρ H1 n1.wd (n1.sl s)
/-! ### arguments, displays -/
variable {Fs : Env → Sto → Res (List D)} {tas : TA}
@[simp] def fNilA : Env → Sto → Res (List D) := fun _ S => .ok [] S
theorem da_nil : DA X E [] tNil fNilA := ⟨pa_nil, fun η B S σ ρ H w s Q k => k [] η B H w.refl rfl⟩
@[simp] def consA (F : Env → Sto → Res D) (G : Env → Sto → Res (List D)) : Env → Sto → Res (List D) := fun ρ S => (F ρ S).bind fun d S1 => (G ρ S1).bind fun ds S2 => .ok (d :: ds) S2
theorem da_cons (ha : DE X E e ta Fa) (hr : DA X E es tas Fs) (hs : starEach (e :: es) X.env = (false, eval e X.env) :: starEach es X.env := by rfl) : DA X E (e :: es) (tCons ta tas) (consA Fa Fs) := by
  obtain ⟨pa, qa⟩ := ha
  obtain ⟨pb, qb⟩ := hr
  refine ⟨pa_cons pa pb hs, fun η B S σ ρ H w s => ?_⟩
  refine Ev.bind (T := ta σ H) (T' := fun v H1 Q => tas σ H1 fun vs H2 => Q (v :: vs) H2) (qa η B S σ ρ H w s) fun d S1 v η1 B1 H1 n1 r1 => ?_
  refine Ev.bind (T := tas σ H1) (T' := fun vs H2 Q => Q (v :: vs) H2) (qb η1 B1 S1 σ ρ H1 n1.wd (n1.sl s)) fun ds S2 vs η2 B2 H2 n2 r2 => ?_
  exact Ev.now n2.wd ⟨v, vs, rfl, n2.rp r1, r2⟩
theorem size_ok {n : Nat} (h : n ≤ 100000) : n ≤ sizeLine := Nat.le_trans h (by decide)
@[simp] def mkLst (ds : List D) : Option D := if ds.length ≤ 100000 then some (.lst ds) else none
@[simp] def mkTup (ds : List D) : Option D := if ds.length ≤ 100000 then some (.tup ds) else none
theorem ev_newL {E : XK} {η B : List Addr} {S : Sto} {H : Hp} {ds : List D} {xs : List V} (w : Wd η B S H) (r : RpL η (cold B H) ds xs) : EvD η B E (fun Q => xs.length ≤ sizeLine ∧ ∀ p, H p = none → Q (.ref p) (upd H p (.lst xs))) H (lift (mkLst ds) S) := by
  unfold mkLst
  split
  · rename_i h
    exact fun Q k => ⟨by rw [r.length]; exact size_ok h, fun p hp => k _ _ _ _ (w.new hp) ⟨p, xs, rfl, w.cold_new hp, (w.new hp).rpL r⟩⟩
  · trivial
theorem ev_newT {E : XK} {η B : List Addr} {S : Sto} {H : Hp} {ds : List D} {xs : List V} (w : Wd η B S H) (r : RpL η (cold B H) ds xs) : EvD η B E (fun Q => xs.length ≤ sizeLine ∧ ∀ p, H p = none → Q (.ref p) (upd H p (.tup xs))) H (lift (mkTup ds) S) := by
  unfold mkTup
  split
  · rename_i h
    exact fun Q k => ⟨by rw [r.length]; exact size_ok h, fun p hp => k _ _ _ _ (w.new hp) ⟨p, xs, rfl, w.cold_new hp, (w.new hp).rpL r⟩⟩
  · trivial
@[simp] def dispL (F : Env → Sto → Res (List D)) : Env → Sto → Res D := fun ρ S => (F ρ S).bind fun ds S1 => lift (mkLst ds) S1
@[simp] def dispT (F : Env → Sto → Res (List D)) : Env → Sto → Res D := fun ρ S => (F ρ S).bind fun ds S1 => lift (mkTup ds) S1
theorem de_lst (h : DA X E es tas Fs) : DE X E (.List es pos) (tLst tas) (dispL Fs) := by
  obtain ⟨p, q⟩ := h
  exact ⟨pe_lst p, fun η B S σ ρ H w s => Ev.bind (T := tas σ H) (T' := fun (xs : List V) (H1 : Hp) (Q : VK) => xs.length ≤ sizeLine ∧ ∀ p, H1 p = none → Q (V.ref p) (upd H1 p (.lst xs))) (q η B S σ ρ H w s) fun ds S1 xs η1 B1 H1 n1 r1 => ev_newL n1.wd r1⟩
theorem de_tup {x1} (h : DA X E es tas Fs) : DE X E (.Tuple es x1 pos) (tTup tas) (dispT Fs) := by
  obtain ⟨p, q⟩ := h
  exact ⟨pe_tup p, fun η B S σ ρ H w s => Ev.bind (T := tas σ H) (T' := fun (xs : List V) (H1 : Hp) (Q : VK) => xs.length ≤ sizeLine ∧ ∀ p, H1 p = none → Q (V.ref p) (upd H1 p (.tup xs))) (q η B S σ ρ H w s) fun ds S1 xs η1 B1 H1 n1 r1 => ev_newT n1.wd r1⟩
/-! ### built-in functions by values -/
def VN (r : List V → Hp → VK → Prop) (f : Sto → List D → Option D) : Prop := ∀ (E : XK) (η B : List Addr) (S : Sto) (H : Hp) (ds : List D) (vs : List V), Wd η B S H → RpL η (cold B H) ds vs → EvD η B E (r vs H) H (lift (f S ds) S)
@[simp] def app (f : Sto → List D → Option D) (F : Env → Sto → Res (List D)) : Env → Sto → Res D := fun ρ S => (F ρ S).bind fun ds S1 => lift (f S1 ds) S1
theorem de_callB {x : Str} {id : String} {r : List V → Hp → VK → Prop} {f : Sto → List D → Option D} (hr : VN r f) (hc : CallR X (.builtin id) r) (hm : X.mg x = none) (hv : bootBuiltins x = some (.builtin id)) (ha : DA X E (e :: es) tas Fs)
    (hg : Gl X x := by rfl) (hn : x ≠ "__name__" := by decide) (hdb : (x == ("__debug__" : Str)) = false := by decide) (he : starEach (e :: es) X.env = (false, eval e X.env) :: starEach es X.env := by rfl) (hpl : (backTo pos (starEach es X.env)).any (·.1) = false := by rfl) :
    DE X E (.Call (.Name x p) (e :: es) [] pos) (tCB r tas) (app f Fs) := by
  obtain ⟨pa, q⟩ := ha
  exact ⟨pe_callB hc hg hm hv pa hn hdb he hpl, fun η B S σ ρ H w s => Ev.bind (T := tas σ H) (T' := fun vs H1 Q => r vs H1 Q) (q η B S σ ρ H w s) fun ds S1 xs η1 B1 H1 n1 r1 => hr (E σ) η1 B1 S1 H1 ds xs n1.wd r1⟩
theorem de_callTy {x : Str} {T : String} {r : List V → Hp → VK → Prop} {f : Sto → List D → Option D} (hr : VN r f) (hc : CallR X (.type T) r) (hm : X.mg x = none) (hv : bootBuiltins x = some (.type T)) (ha : DA X E (e :: es) tas Fs)
    (hg : Gl X x := by rfl) (hn : x ≠ "__name__" := by decide) (hdb : (x == ("__debug__" : Str)) = false := by decide) (he : starEach (e :: es) X.env = (false, eval e X.env) :: starEach es X.env := by rfl) (hpl : (backTo pos (starEach es X.env)).any (·.1) = false := by rfl) :
    DE X E (.Call (.Name x p) (e :: es) [] pos) (tCB r tas) (app f Fs) := by
  obtain ⟨pa, q⟩ := ha
  exact ⟨pe_callTy hc hg hm hv pa hn hdb he hpl, fun η B S σ ρ H w s => Ev.bind (T := tas σ H) (T' := fun vs H1 Q => r vs H1 Q) (q η B S σ ρ H w s) fun ds S1 xs η1 B1 H1 n1 r1 => hr (E σ) η1 B1 S1 H1 ds xs n1.wd r1⟩
end
end DL
set_option Elab.async false
set_option linter.all false
set_option maxRecDepth 100000
set_option maxHeartbeats 4000000
set_option autoImplicit false
namespace DL
open PySem PySem.Spec PyProof.Rows L2
/-! ### slots wiped -/
@[simp] def wipeE (ρ : Env) : List Nat → Env
  | [] => ρ
  | v :: vs => (wipeE ρ vs).set v none
theorem wipeE_len (ρ : Env) : ∀ vs, (wipeE ρ vs).length = ρ.length
  | [] => rfl
  | v :: vs => by
    show ((wipeE ρ vs).set v none).length = _
    rw [List.length_set, wipeE_len ρ vs]
theorem Sl.wipe {η : List Addr} {Hc : Hp} {σ : L2.St} {ρ : Env} (s : Sl η Hc σ ρ) : ∀ vs, Sl η Hc (L2.wipe σ vs) (wipeE ρ vs)
  | [] => s
  | v :: vs => by
    have ih := Sl.wipe s vs
    refine ⟨?_, fun i d h => ?_⟩
    · show ((L2.wipe σ vs).set v none).length = ((wipeE ρ vs).set v none).length
      rw [List.length_set, List.length_set, ih.1]
    · have h' : ((wipeE ρ vs).set v none)[i]? = some (some d) := h
      by_cases e : v = i
      · subst e
        rw [List.getElem?_set] at h'
        simp at h'
      · rw [List.getElem?_set_ne e] at h'
        obtain ⟨u, e1, r⟩ := ih.2 i d h'
        exact ⟨u, by show ((L2.wipe σ vs).set v none)[i]? = _; rw [List.getElem?_set_ne e]; exact e1, r⟩
theorem wipe_set {i : Nat} {x : Option V} : ∀ (vs : List Nat) (σ : L2.St), L2.wipe (σ.set i x) vs = if i ∈ vs then L2.wipe σ vs else (L2.wipe σ vs).set i x
  | [], σ => by simp [L2.wipe]
  | v :: vs, σ => by
    show (L2.wipe (σ.set i x) vs).set v none = if i ∈ v :: vs then (L2.wipe σ vs).set v none else ((L2.wipe σ vs).set v none).set i x
    rw [wipe_set vs σ]
    by_cases h : i ∈ vs
    · rw [if_pos h, if_pos (List.mem_cons_of_mem _ h)]
    · rw [if_neg h]
      by_cases e : i = v
      · subst e
        rw [if_pos List.mem_cons_self, List.set_set]
      · rw [if_neg (by simp [e, h]), List.set_comm _ _ e]
theorem wipe_in {i : Nat} {x : Option V} {vs : List Nat} {σ : L2.St} (h : i ∈ vs) : L2.wipe (σ.set i x) vs = L2.wipe σ vs := by rw [wipe_set, if_pos h]
/-! ### targets -/
def SoG (g : TG) (is : List Nat) (gF : D → Env → Option Env) : Prop := ∀ η B S H d v σ ρ ρ', Wd η B S H → Sl η (cold B H) σ ρ → Rp η (cold B H) d v → gF d ρ = some ρ' →
  ∀ Q : L2.St → Hp → Prop, (∀ σ', Sl η (cold B H) σ' ρ' → (∀ vs : List Nat, (∀ i ∈ is, i ∈ vs) → L2.wipe σ' vs = L2.wipe σ vs) → Q σ' H) → g v σ H Q
@[simp] def gfName (i : Nat) : D → Env → Option Env := fun d ρ => some (ρ.set i (some d))
theorem sog_name (i : Nat) : SoG (gName i) [i] (gfName i) := fun η B S H d v σ ρ ρ' w s r e Q k => by
  cases e
  exact k _ (s.set r) fun vs h => wipe_in (h i List.mem_cons_self)
@[simp] def gfPair (i j : Nat) : D → Env → Option Env := fun d ρ => match d with
  | .tup [a, b] => some ((ρ.set i (some a)).set j (some b))
  | _ => none
theorem sog_pair (K : PySem.W.Frag) (i j : Nat) : SoG (gTup K 2 (gCons (gName i) (gCons (gName j) gNil))) [i, j] (gfPair i j) := fun η B S H d v σ ρ ρ' w s r e Q k => by
  unfold gfPair at e
  split at e
  · rename_i a b
    cases e
    obtain ⟨p, xs, rfl, hp, va, r1, rfl, ra, vb, r2, rfl, rb, rfl⟩ := r
    refine ⟨p, _, rfl, .inl (.inl (cold_of hp).1), rfl, va, _, rfl, vb, _, rfl, rfl, k _ ((s.set ra).set rb) fun vs h => ?_⟩
    rw [wipe_in (h j (by simp)), wipe_in (h i (by simp))]
  · cases e
/-! ### what is walked -/
def RI (η : List Addr) (Hc : Hp) (items : List D) (J : It) : Prop := ∃ (G : Hp → Prop) (Y : Nat → Hp → V → Hp → Prop), Walk J items.length G Y ∧ (∀ η' B S H', Up η η' → Wd η' B S H' → Same Hc (cold B H') → G H') ∧
  ∀ η' B S H' i x H'', Up η η' → Wd η' B S H' → Same Hc (cold B H') → i < items.length → Y i H' x H'' → Nx η' B η' B S H' H'' ∧ ∃ d, items[i]? = some d ∧ Rp η' (cold B H'') d x
def SoI (E : EK) (wi : TI) (F : Env → Sto → Res (List D)) : Prop := ∀ η B S σ ρ H, Wd η B S H → Sl η (cold B H) σ ρ → Ev RI η B (E σ) (wi σ H) H (F ρ S)
def DI (X : Cx) (E : EK) (tg iter : Expr) (wi : TI) (F : Env → Sto → Res (List D)) : Prop := PI X tg iter wi ∧ SoI E wi F
@[simp] def asL : D → Option (List D)
  | .lst l => some l
  | _ => none
@[simp] def asT : D → Option (List D)
  | .tup l => some l
  | _ => none
@[simp] def asC : D → Option (List D)
  | .str s => some (s.cps.toList.map fun c => .str ⟨#[c]⟩)
  | _ => none
@[simp] def itF (f : D → Option (List D)) (F : Env → Sto → Res D) : Env → Sto → Res (List D) := fun ρ S => (F ρ S).bind fun d S1 => lift (f d) S1
section
variable {X : Cx} {E : EK} {tg e a b : Expr} {es : List Expr} {te : TE} {ta : TA} {F : Env → Sto → Res D} {Fs : Env → Sto → Res (List D)} {pos p : Pos}
theorem di_list {K : PySem.W.Frag} (h : DE X E e te F) (hK : X.K = K := by rfl) : DI X E tg e (iList K te) (itF asL F) := by
  subst hK
  obtain ⟨pe, so⟩ := h
  refine ⟨pi_list pe, fun η B S σ ρ H w s => Ev.bind (T := te σ H) (T' := fun x H1 R => ∃ a, x = V.ref a ∧ (∃ xs, SqL X.K H1 a xs) ∧ R (Itl X.K a) H1) (so η B S σ ρ H w s) fun d S1 v η1 B1 H1 n1 r1 => ?_⟩
  cases d <;> first | trivial | skip
  rename_i ds
  obtain ⟨q, xs, rfl, hq, rl⟩ := r1
  refine fun Q k => ⟨q, rfl, ⟨xs, .inl (.inl (cold_of hq).1)⟩, k _ η1 B1 H1 n1.wd.refl ⟨fun H => SqL X.K H q xs, _, by rw [← rl.length]; exact walk_list (xs := xs), fun η' B' S' H' u' w' sm => .inl (.inl (cold_of (sm _ _ hq)).1), fun η' B' S' H' i x H'' u' w' sm hi y => ?_⟩⟩
  obtain ⟨rfl, hx⟩ := y
  obtain ⟨d', e1, r'⟩ := rl.get hx
  exact ⟨w'.refl, d', e1, Rp.le (.of sm) u' d' r'⟩
theorem di_tup {K : PySem.W.Frag} (h : DE X E e te F) (hK : X.K = K := by rfl) : DI X E tg e (iTup K te) (itF asT F) := by
  subst hK
  obtain ⟨pe, so⟩ := h
  refine ⟨pi_tup pe, fun η B S σ ρ H w s => Ev.bind (T := te σ H) (T' := fun x H1 R => ∃ a, x = V.ref a ∧ (∃ xs, SqT X.K H1 a xs) ∧ R (Itt X.K a) H1) (so η B S σ ρ H w s) fun d S1 v η1 B1 H1 n1 r1 => ?_⟩
  cases d <;> first | trivial | skip
  rename_i ds
  obtain ⟨q, xs, rfl, hq, rl⟩ := r1
  refine fun Q k => ⟨q, rfl, ⟨xs, .inl (.inl (cold_of hq).1)⟩, k _ η1 B1 H1 n1.wd.refl ⟨fun H => SqT X.K H q xs, _, by rw [← rl.length]; exact walk_tup (xs := xs), fun η' B' S' H' u' w' sm => .inl (.inl (cold_of (sm _ _ hq)).1), fun η' B' S' H' i x H'' u' w' sm hi y => ?_⟩⟩
  obtain ⟨rfl, hx⟩ := y
  obtain ⟨d', e1, r'⟩ := rl.get hx
  exact ⟨w'.refl, d', e1, Rp.le (.of sm) u' d' r'⟩
theorem di_str (h : DE X E e te F) : DI X E tg e (iStr te) (itF asC F) := by
  obtain ⟨pe, so⟩ := h
  refine ⟨pi_str pe, fun η B S σ ρ H w s => Ev.bind (T := te σ H) (T' := fun v H1 R => ∃ x, v = V.str x ∧ R (Its x) H1) (so η B S σ ρ H w s) fun d S1 v η1 B1 H1 n1 r1 => ?_⟩
  cases d <;> first | trivial | skip
  rename_i z
  obtain rfl : v = .str z := r1
  refine fun Q k => ⟨z, rfl, k _ η1 B1 H1 n1.wd.refl ⟨_, _, by rw [List.length_map, Array.length_toList]; exact walk_str (z := z), fun η' B' S' H' u' w' sm => trivial, fun η' B' S' H' i x H'' u' w' sm hi y => ?_⟩⟩
  obtain ⟨rfl, c, hc, rfl⟩ := y
  refine ⟨w'.refl, .str ⟨#[c]⟩, ?_, rfl⟩
  rw [List.getElem?_map, Array.getElem?_toList, hc]
  rfl
def rngF (lo hi : Int) : List D := (List.range (hi - lo).toNat).map fun k => .int (lo + (k : Nat))
@[simp] def asR1 : List D → Option (List D)
  | [.int n] => if -100000 < n ∧ n < 100000 then some (rngF 0 n) else none
  | _ => none
@[simp] def asR2 : List D → Option (List D)
  | [.int m, .int n] => if -100000 < m ∧ m < 100000 ∧ -100000 < n ∧ n < 100000 then some (rngF m n) else none
  | _ => none
@[simp] def itA (f : List D → Option (List D)) (F : Env → Sto → Res (List D)) : Env → Sto → Res (List D) := fun ρ S => (F ρ S).bind fun d S1 => lift (f d) S1
theorem ri_rng (η : List Addr) (Hc : Hp) (lo hi : Int) : RI η Hc (rngF lo hi) (Itr lo (hi - lo).toNat) := by
  refine ⟨_, _, by unfold rngF; rw [List.length_map, List.length_range]; exact walk_range (lo := lo), fun _ _ _ _ _ _ _ => trivial, fun η' B S H' i x H'' u' w sm hi y => ?_⟩
  obtain ⟨rfl, rfl⟩ := y
  refine ⟨w.refl, .int (lo + (i : Nat)), ?_, rfl⟩
  unfold rngF at hi ⊢
  rw [List.length_map, List.length_range] at hi
  rw [List.getElem?_map, List.getElem?_range hi]
  rfl
theorem di_range1 (hm : X.mg "range" = none) (h : DA X E [a] ta Fs) (hg : Gl X "range" := by rfl) (hs : starEach [a] X.env = [(false, eval a X.env)] := by rfl) : DI X E tg (.Call (.Name "range" p) [a] [] pos) (iRng1 ta) (itA asR1 Fs) := by
  obtain ⟨pe, so⟩ := h
  refine ⟨pi_range1 hg hm pe hs, fun η B S σ ρ H w s => Ev.bind (T := ta σ H) (T' := fun vs H1 R => ∃ j : Int, vs = [V.int j] ∧ -(2 ^ 62) ≤ j ∧ j < 2 ^ 62 ∧ R (Itr 0 j.toNat) H1) (so η B S σ ρ H w s) fun ds S1 vs η1 B1 H1 n1 r1 => ?_⟩
  show Ev RI η1 B1 (E σ) _ H1 (lift (asR1 ds) S1)
  unfold asR1
  split
  · rename_i n
    obtain ⟨v, r2, rfl, rfl, rfl⟩ := r1
    split
    · rename_i hn
      have hz : Itr 0 n.toNat = Itr 0 (n - 0).toNat := by rw [Int.sub_zero]
      refine fun Q k => ⟨n, rfl, by omega, by omega, ?_⟩
      rw [hz]
      exact k _ η1 B1 H1 n1.wd.refl (ri_rng η1 _ 0 n)
    · trivial
  · trivial
theorem di_range2 (hm : X.mg "range" = none) (h : DA X E [a, b] ta Fs) (hg : Gl X "range" := by rfl) (hs : starEach [a, b] X.env = [(false, eval a X.env), (false, eval b X.env)] := by rfl) (hs2 : starEach [b] X.env = [(false, eval b X.env)] := by rfl) :
    DI X E tg (.Call (.Name "range" p) [a, b] [] pos) (iRng2 ta) (itA asR2 Fs) := by
  obtain ⟨pe, so⟩ := h
  refine ⟨pi_range2 hg hm pe hs hs2, fun η B S σ ρ H w s => Ev.bind (T := ta σ H) (T' := fun vs H1 R => ∃ i j : Int, vs = [V.int i, V.int j] ∧ (-(2 ^ 62) ≤ i ∧ i < 2 ^ 62 ∧ -(2 ^ 62) ≤ j ∧ j < 2 ^ 62) ∧ R (Itr i (j - i).toNat) H1) (so η B S σ ρ H w s) fun ds S1 vs η1 B1 H1 n1 r1 => ?_⟩
  show Ev RI η1 B1 (E σ) _ H1 (lift (asR2 ds) S1)
  unfold asR2
  split
  · rename_i m n
    obtain ⟨v, r2, rfl, rfl, v', r3, rfl, rfl, rfl⟩ := r1
    split
    · rename_i hn
      exact fun Q k => ⟨m, n, rfl, by omega, k _ η1 B1 H1 n1.wd.refl (ri_rng η1 _ m n)⟩
    · trivial
  · trivial
end
end DL
set_option Elab.async false
set_option linter.all false
set_option maxRecDepth 100000
set_option maxHeartbeats 4000000
set_option autoImplicit false
namespace DL
open PySem PySem.Spec PyProof.Rows L2
/-! ### a hidden address -/
section
variable {η B η' B' : List Addr} {S : Sto} {H H' : Hp} {p : Addr} {o : HO}
def un (p : Addr) (B : List Addr) : List Addr := B.filter fun b => decide (b ≠ p)
theorem mem_un {a : Addr} : a ∈ un p B ↔ a ∈ B ∧ a ≠ p := by
  unfold un
  rw [List.mem_filter, decide_eq_true_eq]
theorem cold_put (h : p ∈ B) (o : HO) : cold B (upd H p o) = cold B H := by
  funext a
  unfold cold
  by_cases h' : a ∈ B
  · rw [if_pos h', if_pos h']
  · rw [if_neg h', if_neg h', upd_ne fun e => h' (by rw [e]; exact h)]
theorem Wd.hide (w : Wd η B S H) (hp : H p = none) : Nx η B η (p :: B) S H (upd H p o) := by
  have hc : Same (cold B H) (cold (p :: B) (upd H p o)) := fun a u e => by
    obtain ⟨e1, e2⟩ := cold_of e
    have ne : a ≠ p := ne_of_none e1 hp
    exact cold_in (by rw [upd_ne ne]; exact e1) (by simp [ne, e2])
  refine ⟨⟨fun a h => List.mem_cons_of_mem _ (w.sub a h), fun b hb => ?_, w.nd, w.len, fun i a u hi hu => ?_⟩, .refl η, w.sub, fun _ h => .inl h, fun b h => ?_, fun _ h => List.mem_cons_of_mem _ h, fun a u _ e => same_new hp a u e⟩
  · by_cases e : b = p
    · rw [e, upd_same]; exact fun z => nomatch z
    · rw [upd_ne e]
      exact w.live b (by simpa [e] using hb)
  · exact (w.hot i a u hi hu).mono hc fun x q => same_new hp _ _ q
  · rcases List.mem_cons.mp h with e | e
    · exact .inr (by rw [e]; exact hp)
    · exact .inl e
theorem up_snoc (η : List Addr) (p : Addr) : Up η (η ++ [p]) := fun i a h => by
  rw [List.getElem?_append_left (List.getElem?_eq_some_iff.mp h).1]
  exact h
theorem RpL.up {η η' : List Addr} {Hc : Hp} {d : List D} {v : List V} (r : RpL η Hc d v) (u : Up η η') : RpL η' Hc d v := RpL.le (.of fun _ _ e => e) u d r
theorem Rp.up {η η' : List Addr} {Hc : Hp} {d : D} {v : V} (r : Rp η Hc d v) (u : Up η η') : Rp η' Hc d v := Rp.le (.of fun _ _ e => e) u d r
theorem RpK.up {η η' : List Addr} {Hc : Hp} {d : List (Key × D)} {v : List (Key × V)} (r : RpK η Hc d v) (u : Up η η') : RpK η' Hc d v := RpK.le (.of fun _ _ e => e) u d r
theorem RpF.up {η η' : List Addr} {Hc : Hp} {d : List (Str × D)} {v : List (Str × V)} (r : RpF η Hc d v) (u : Up η η') : RpF η' Hc d v := RpF.le (.of fun _ _ e => e) u d r
/-- a new hot object -/
theorem Wd.alloc (w : Wd η B S H) (hp : H p = none) {u : HotO} (r : HotRel (η ++ [p]) (cold (p :: B) (upd H p o)) (upd H p o) p u) : Nx η B (η ++ [p]) (p :: B) (S ++ [u]) H (upd H p o) := by
  have n := w.hide (o := o) hp
  have hpη : p ∉ η := fun z => w.live p (w.sub p z) hp
  refine ⟨⟨fun a h => ?_, n.wd.live, ?_, ?_, fun i a v hi hv => ?_⟩, up_snoc η p, w.sub, fun a h => ?_, n.fr, n.sb, n.kp⟩
  · rcases List.mem_append.mp h with h | h
    · exact n.wd.sub a h
    · rw [List.mem_singleton.mp h]; exact List.mem_cons_self
  · exact List.nodup_append.mpr ⟨w.nd, by simp, fun a ha b hb e => hpη (by rw [List.mem_singleton.mp hb] at e; exact e ▸ ha)⟩
  · rw [List.length_append, List.length_append, w.len]; rfl
  · by_cases hl : i < η.length
    · rw [List.getElem?_append_left hl] at hi
      rw [List.getElem?_append_left (by rw [← w.len]; exact hl)] at hv
      exact (n.wd.hot i a v hi hv).le (.of fun _ _ e => e) (up_snoc η p) fun _ q => q
    · rw [List.getElem?_append_right (by omega)] at hi
      rw [List.getElem?_append_right (by rw [← w.len]; omega), ← w.len] at hv
      have h0 : i - η.length = 0 := by
        have := (List.getElem?_eq_some_iff.mp hi).1
        simp at this
        omega
      rw [h0] at hi hv
      cases hi
      cases hv
      exact r
  · rcases List.mem_append.mp h with h | h
    · exact .inl h
    · rw [List.mem_singleton.mp h]; exact .inr hp
theorem Wd.at_new (w : Wd η B S H) : (η ++ [p])[S.length]? = some p := by
  rw [← w.len]
  simp
/-- the hidden object is changed -/
theorem Wd.put (w : Wd η B S H) (hb : p ∈ B) (hp : p ∉ η) : Wd η B S (upd H p o) := by
  refine ⟨w.sub, fun b hb => ?_, w.nd, w.len, fun i a u hi hu => ?_⟩
  · by_cases e : b = p
    · rw [e, upd_same]; exact fun z => nomatch z
    · rw [upd_ne e]
      exact w.live b hb
  · rw [cold_put hb]
    refine (w.hot i a u hi hu).mono (fun _ _ e => e) fun x q => ?_
    rw [upd_ne fun e => hp (by rw [← e]; exact List.mem_of_getElem? hi)]
    exact q
theorem Nx.put (n : Nx η B η' B' S H H') (h0 : H p = none) (hb : p ∈ B') (hp : p ∉ η') : Nx η B η' B' S H (upd H' p o) :=
  ⟨n.wd.put hb hp, n.up, n.s0, n.nw, n.fr, n.sb, fun a u na e => by rw [upd_ne (ne_of_none e h0)]; exact n.kp a u na e⟩
/-- a hidden object becomes hot -/
theorem Nx.adopt (n : Nx η B η' B' S H H') (h0 : H p = none) (hb : p ∈ B') (hp : p ∉ η') {u : HotO} (r : HotRel (η' ++ [p]) (cold B' (upd H' p o)) (upd H' p o) p u) : Nx η B (η' ++ [p]) B' (S ++ [u]) H (upd H' p o) := by
  have n2 := n.put (o := o) h0 hb hp
  refine ⟨⟨fun a h => ?_, n2.wd.live, ?_, ?_, fun i a v hi hv => ?_⟩, n.up.trans (up_snoc _ _), n.s0, fun a h => ?_, n2.fr, n2.sb, n2.kp⟩
  · rcases List.mem_append.mp h with h | h
    · exact n2.wd.sub a h
    · rw [List.mem_singleton.mp h]; exact hb
  · exact List.nodup_append.mpr ⟨n.wd.nd, by simp, fun a ha b hb e => hp (by rw [List.mem_singleton.mp hb] at e; exact e ▸ ha)⟩
  · rw [List.length_append, List.length_append, n.wd.len]; rfl
  · by_cases hl : i < η'.length
    · rw [List.getElem?_append_left hl] at hi
      rw [List.getElem?_append_left (by rw [← n.wd.len]; exact hl)] at hv
      exact (n2.wd.hot i a v hi hv).le (.of fun _ _ e => e) (up_snoc _ _) fun _ q => q
    · rw [List.getElem?_append_right (by omega)] at hi
      rw [List.getElem?_append_right (by rw [← n.wd.len]; omega), ← n.wd.len] at hv
      have h0 : i - η'.length = 0 := by
        have := (List.getElem?_eq_some_iff.mp hi).1
        simp at this
        omega
      rw [h0] at hi hv
      cases hi
      cases hv
      exact r
  · rcases List.mem_append.mp h with h | h
    · exact n.nw a h
    · rw [List.mem_singleton.mp h]; exact .inr h0
theorem Wd.unhide (w : Wd η B S H) (hp : p ∉ η) : Wd η (un p B) S H :=
  ⟨fun a h => mem_un.mpr ⟨w.sub a h, fun e => hp (e ▸ h)⟩, fun b hb => w.live b (mem_un.mp hb).1, w.nd, w.len, fun i a u hi hu => (w.hot i a u hi hu).mono (cold_sub fun a h => (mem_un.mp h).1) fun _ q => q⟩
theorem Nx.unhide (n : Nx η B η' B' S H H') (h0 : H p = none) (hB : p ∉ B) (hp : p ∉ η') : Nx η B η' (un p B') S H H' :=
  ⟨n.wd.unhide hp, n.up, n.s0, n.nw, fun b h => n.fr b (mem_un.mp h).1, fun b h => mem_un.mpr ⟨n.sb b h, fun e => hB (e ▸ h)⟩, n.kp⟩
theorem Nx.far (n : Nx η B η' B' S H H') (h : p ∉ η) (e : H p ≠ none) : p ∉ η' := fun z => by
  rcases n.nw p z with q | q
  · exact h q
  · exact e q
end
/-! ### comprehensions -/
abbrev EN : EK := fun _ => E0
theorem wipe_idem_aux : ∀ (vs us : List Nat) (σ : L2.St), (∀ v ∈ vs, v ∈ us) → L2.wipe (L2.wipe σ vs) us = L2.wipe σ us
  | [], _, _, _ => rfl
  | v :: vs, us, σ, h => by
    show L2.wipe ((L2.wipe σ vs).set v none) us = _
    rw [wipe_in (h v List.mem_cons_self)]
    exact wipe_idem_aux vs us σ fun u hu => h u (List.mem_cons_of_mem _ hu)
theorem wipe_idem (vs : List Nat) (σ : L2.St) : L2.wipe (L2.wipe σ vs) vs = L2.wipe σ vs := wipe_idem_aux vs vs σ fun _ h => h
def lcF (gF : D → Env → Option Env) (T : Env → Sto → Res Bool) (F : Env → Sto → Res D) (ρ : Env) : List D → Sto → List D → Res (List D)
  | [], S, acc => .ok acc S
  | d :: ds, S, acc => match gF d ρ with
    | none => .bad
    | some ρ1 => match T ρ1 S with
      | .ok true S1 => (match F ρ1 S1 with
        | .ok y S2 => lcF gF T F ρ ds S2 (acc ++ [y])
        | _ => .bad)
      | .ok false S1 => lcF gF T F ρ ds S1 acc
      | _ => .bad
def lcomp (vs : List Nat) (Fi : Env → Sto → Res (List D)) (gF : D → Env → Option Env) (T : Env → Sto → Res Bool) (F : Env → Sto → Res D) : Env → Sto → Res D := fun ρ S =>
  (Fi ρ S).bind fun items S1 => if items.length ≤ 100000 then (lcF gF T F (wipeE ρ vs) items S1 []).bind (fun ds S2 => .ok (.lst ds) S2) else .bad
theorem lc_loop {E : XK} {J : It} {g : TG} {is vs : List Nat} {gF : D → Env → Option Env} {tt : TT} {te : TE} {T : Env → Sto → Res Bool} {F : Env → Sto → Res D} (hg : SoG g is gF) (his : ∀ i ∈ is, i ∈ vs) (ht : SoT EN tt T) (he : SoE EN te F)
    {η B : List Addr} {S1 : Sto} {σ : L2.St} {ρ : Env} {H1 : Hp} {items : List D} (w1 : Wd η B S1 H1) (s1 : Sl η (cold B H1) σ ρ) (ri : RI η (cold B H1) items J) (hn : items.length ≤ 100000) :
    EvD η B E (fun Q => ∀ D, H1 D = none → ∃ W : Nat → Nat → Hp → Prop, (∃ m, W 0 m (upd H1 D (.lst []))) ∧ ∀ i m H, W i m H →
      (J.stop i H ∧ Q (V.ref D) H) ∨ (J.go i H ∧ ∃ Nx : Hp → Prop, (∀ H', Nx H' → ∃ m', m' < m ∧ W (i + 1) m' H') ∧ ∀ x H', J.yld i H x H' → g x (L2.wipe σ vs) H' fun σ2 H2 => L2.wipe σ2 vs = L2.wipe σ vs ∧ tt σ2 H2 fun b H3 =>
        if b = true then te σ2 H3 fun y H4 => ∃ acc, H4 D = some (.lst acc) ∧ acc.length < sizeLine ∧ Nx (upd H4 D (.lst (acc ++ [y]))) else Nx H3)) H1
      ((lcF gF T F (wipeE ρ vs) items S1 []).bind (fun ds S2 => .ok (.lst ds) S2)) := by
  obtain ⟨G, Y, wk, hG, hY⟩ := ri
  cases hR : lcF gF T F (wipeE ρ vs) items S1 [] with
  | bad => trivial
  | exc C fs S' =>
    exfalso
    have none_exc : ∀ (ds : List D) (S : Sto) (acc : List D) (C : Addr) (fs : List (Str × D)) (S' : Sto), lcF gF T F (wipeE ρ vs) ds S acc ≠ .exc C fs S' := by
      intro ds
      induction ds with
      | nil => intro S acc C fs S' z; cases z
      | cons d ds ih =>
        intro S acc C fs S' z
        unfold lcF at z
        split at z
        · cases z
        · split at z
          · split at z
            · exact ih _ _ _ _ _ z
            · cases z
          · exact ih _ _ _ _ _ z
          · cases z
    exact none_exc _ _ _ _ _ _ hR
  | ok res Sf =>
    intro Q k D hD
    have nDη : D ∉ η := fun z => w1.live D (w1.sub D z) hD
    have nDB : D ∉ B := w1.fresh hD
    refine lc_it wk (fun i H' => ∃ (ηi Bi : List Addr) (Si : Sto) (acc : List DL.D) (xs : List V), lcF gF T F (wipeE ρ vs) (items.drop i) Si acc = .ok res Sf ∧ acc.length ≤ i ∧ Nx η B ηi Bi Si H1 H' ∧ D ∈ Bi ∧ D ∉ ηi ∧ H' D = some (.lst xs) ∧ RpL ηi (cold Bi H') acc xs) ?_ ?_ ?_ ?_
    · exact ⟨η, D :: B, S1, [], [], hR, Nat.le_refl _, w1.hide hD, List.mem_cons_self, nDη, upd_same, rfl⟩
    · rintro i H' _ ⟨ηi, Bi, Si, acc, xs, _, _, n', _, _, hx, _⟩
      exact hG ηi Bi Si H' n'.up n'.wd n'.same
    · rintro i x H' H'' hi ⟨ηi, Bi, Si, acc, xs, hr, hl, n', dB, dη, hx, rx⟩ y
      obtain ⟨n2, d, hd, rd⟩ := hY ηi Bi Si H' i x H'' n'.up n'.wd n'.same hi y
      have hdrop : items.drop i = d :: items.drop (i + 1) := by
        rw [List.drop_eq_getElem_cons hi]
        congr 1
        rw [List.getElem?_eq_getElem hi] at hd
        exact Option.some.inj hd
      rw [hdrop] at hr
      unfold lcF at hr
      cases hg1 : gF d (wipeE ρ vs) with
      | none => rw [hg1] at hr; cases hr
      | some ρ1 =>
        rw [hg1] at hr
        dsimp only at hr
        have sw : Sl ηi (cold Bi H'') (L2.wipe σ vs) (wipeE ρ vs) := n2.sl (n'.sl (s1.wipe vs))
        refine hg ηi Bi Si H'' d x _ _ ρ1 n2.wd sw rd hg1 _ fun σ2 s2 hw => ⟨(hw vs his).trans (wipe_idem vs σ), ?_⟩
        have hD2 : H'' D = some (.lst xs) := n2.kp D _ dη hx
        cases ht1 : T ρ1 Si with
        | bad => rw [ht1] at hr; cases hr
        | exc C fs S' => rw [ht1] at hr; cases hr
        | ok b S2 =>
          rw [ht1] at hr
          have z := ht ηi Bi Si σ2 ρ1 H'' n2.wd s2
          rw [ht1] at z
          refine z _ fun b' η3 B3 H3 n3 eb => ?_
          subst eb
          have hD3 : H3 D = some (.lst xs) := n3.kp D _ dη hD2
          have dη3 : D ∉ η3 := n3.far dη (by rw [hD2]; exact fun z => nomatch z)
          cases b with
          | false =>
            refine iteF ⟨η3, B3, S2, acc, xs, hr, by omega, (n'.trans n2).trans n3, n3.sb D dB, dη3, hD3, n3.rpL (n2.rpL rx)⟩
          | true =>
            dsimp only at hr
            refine iteT ?_
            cases hf : F ρ1 S2 with
            | bad => rw [hf] at hr; cases hr
            | exc C fs S' => rw [hf] at hr; cases hr
            | ok yd S4 =>
              rw [hf] at hr
              have z := he η3 B3 S2 σ2 ρ1 H3 n3.wd (n3.sl s2)
              rw [hf] at z
              refine z _ fun v η4 B4 H4 n4 r4 => ?_
              have dη4 : D ∉ η4 := n4.far dη3 (by rw [hD3]; exact fun z => nomatch z)
              have dB4 : D ∈ B4 := n4.sb D (n3.sb D dB)
              have rx4 : RpL η4 (cold B4 H4) acc xs := n4.rpL (n3.rpL (n2.rpL rx))
              refine ⟨xs, n4.kp D _ dη3 hD3, ?_, η4, B4, S4, acc ++ [yd], xs ++ [v], hr, ?_, (((n'.trans n2).trans n3).trans n4).put hD dB4 dη4, dB4, dη4, upd_same, ?_⟩
              · rw [rx.length]
                exact Nat.lt_of_lt_of_le (Nat.lt_of_le_of_lt hl hi) (size_ok hn)
              · rw [List.length_append]
                exact Nat.succ_le_succ hl
              · rw [cold_put dB4]
                exact rx4.snoc r4
    · rintro H' ⟨ηi, Bi, Si, acc, xs, hr, hl, n', dB, dη, hx, rx⟩
      rw [List.drop_length] at hr
      cases hr
      exact k _ _ _ _ (n'.unhide hD nDB dη) ⟨D, xs, rfl, cold_in hx (fun z => (mem_un.mp z).2 rfl), RpL.le (.of (cold_sub fun a h => (mem_un.mp h).1)) (.refl _) _ rx⟩
section
variable {X : Cx} {E : EK} {tg iter elt : Expr} {ifs : List Expr} {scope : Scope} {own : List (Str × Nat)} {pos : Pos} {wi : TI} {g : TG} {tt : TT} {te : TE} {Fi : Env → Sto → Res (List D)} {gF : D → Env → Option Env} {T : Env → Sto → Res Bool} {F : Env → Sto → Res D} {is : List Nat}
theorem so_lc {vs : List Nat} (hi : SoI E wi Fi) (hg : SoG g is gF) (his : ∀ i ∈ is, i ∈ vs) (ht : SoT EN tt T) (he : SoE EN te F) : SoE E (tLc wi g tt te vs) (lcomp vs Fi gF T F) := fun η B S σ ρ H w s => by
  refine Ev.bind (T := wi σ H) (T' := fun (J : It) (H1 : Hp) (Q : VK) => ∀ D, H1 D = none → ∃ W : Nat → Nat → Hp → Prop, (∃ m, W 0 m (upd H1 D (.lst []))) ∧ ∀ i m H, W i m H →
      (J.stop i H ∧ Q (V.ref D) H) ∨ (J.go i H ∧ ∃ Nx : Hp → Prop, (∀ H', Nx H' → ∃ m', m' < m ∧ W (i + 1) m' H') ∧ ∀ x H', J.yld i H x H' → g x (L2.wipe σ vs) H' fun σ2 H2 => L2.wipe σ2 vs = L2.wipe σ vs ∧ tt σ2 H2 fun b H3 =>
        if b = true then te σ2 H3 fun y H4 => ∃ acc, H4 D = some (.lst acc) ∧ acc.length < sizeLine ∧ Nx (upd H4 D (.lst (acc ++ [y]))) else Nx H3)) (hi η B S σ ρ H w s) fun items S1 J η1 B1 H1 n1 r1 => ?_
  by_cases hn : items.length ≤ 100000
  · rw [if_pos hn]
    exact lc_loop hg his ht he n1.wd (n1.sl s) r1 hn
  · rw [if_neg hn]
    trivial
@[simp] def fYes : Env → Sto → Res Bool := fun _ S => .ok true S
theorem sot_yes : SoT EN tYes fYes := fun η B S σ ρ H w s Q k => k true η B H w.refl rfl
def DTs (X : Cx) (E : EK) (es : List Expr) (t : TT) (F : Env → Sto → Res Bool) : Prop := PTs X es t ∧ SoT E t F
theorem dts_nil : DTs X EN [] tYes fYes := ⟨pts_nil, sot_yes⟩
theorem dts_one {c : Expr} (h : DT X E c tt T) : DTs X E [c] tt T := ⟨pts_one h.1, h.2⟩
/-- the parts of a comprehension's block -/
structure Blk (X : Cx) (scope : Scope) (own : List (Str × Nat)) (tg : Expr) (ifs : List Expr) (elt : Expr) (g : TG) (tt : TT) (te : TE) (gF : D → Env → Option Env) (T : Env → Sto → Res Bool) (F : Env → Sto → Res D) : Prop where
  ok : BlkOk X.N X.env.scope scope own
  pg : ∀ (s : Shared) (H : Hp) (C : Addr) (cl : List (Str × Addr)) (fp : List Addr), PG (X.blk s H scope (compEnvC scope cl C X.env) fp) tg g
  pt : ∀ (s : Shared) (H : Hp) (C : Addr) (cl : List (Str × Addr)) (fp : List Addr), DTs (X.blk s H scope (compEnvC scope cl C X.env) fp) EN ifs tt T
  pe : ∀ (s : Shared) (H : Hp) (C : Addr) (cl : List (Str × Addr)) (fp : List Addr), DE (X.blk s H scope (compEnvC scope cl C X.env) fp) EN elt te F
  sg : ∃ is, SoG g is gF ∧ ∀ i ∈ is, i ∈ own.map (·.2)
theorem de_lc (b : Blk X scope own tg ifs elt g tt te gF T F) (hi : DI X E tg iter wi Fi) (hc : X.calm = true := by rfl) (hN : X.N.Nodup) (hs : ∀ x, foldedSetIterable iter X.env x = pure x := by intro _; rfl) :
    DE X E (.ListComp elt [⟨tg, iter, ifs, 0⟩] scope pos) (tLc wi g tt te (own.map (·.2))) (lcomp (own.map (·.2)) Fi gF T F) := by
  obtain ⟨is, h1, h2⟩ := b.sg
  exact ⟨pe_lc hc hN hi.1 b.ok b.pg (fun s H C cl fp => (b.pt s H C cl fp).1) (fun s H C cl fp => (b.pe s H C cl fp).1) hs, so_lc hi.2 h1 h2 (b.pt X.s_0 X.H_0 0 [] []).2 (b.pe X.s_0 X.H_0 0 [] []).2⟩
end
end DL
set_option Elab.async false
set_option linter.all false
set_option maxRecDepth 100000
set_option maxHeartbeats 4000000
set_option autoImplicit false
namespace DL
open PySem PySem.Spec PyProof.Rows L2
/-! ### defs by their mirrors -/
def PostR (η B : List Addr) (H : Hp) (Q : VK) (E : XK) : Res D → Prop
  | .ok d S' => ∀ v η' B' H', Nx η B η' B' S' H H' → Rp η' (cold B' H') d v → Q v H'
  | .exc C fs S' => ∀ dd ws η' B' H', Nx η B η' B' S' H H' → H dd = none → cold B' H' dd = some (.xd ws) → RpF η' (cold B' H') fs ws → E (.ref C) (some dd) H'
  | .bad => False
def spF (n : Nat) (m : List D → Sto → Res D) : Sp := fun vs H Q E => ∃ η B S ds, ds.length = n ∧ Wd η B S H ∧ RpL η (cold B H) ds vs ∧ PostR η B H Q E (m ds S)
theorem ev_spF {n : Nat} {m : List D → Sto → Res D} {E : XK} {η B : List Addr} {S : Sto} {H : Hp} {ds : List D} {vs : List V} (hl : ds.length = n) (w : Wd η B S H) (r : RpL η (cold B H) ds vs) : EvD η B E (fun Q => spF n m vs H Q E) H (m ds S) := by
  cases e : m ds S with
  | bad => trivial
  | ok d S' =>
    intro Q k
    refine ⟨η, B, S, ds, hl, w, r, ?_⟩
    rw [e]
    exact k
  | exc C fs S' =>
    intro Q k
    refine ⟨η, B, S, ds, hl, w, r, ?_⟩
    rw [e]
    exact k
@[simp] def callF (n : Nat) (m : List D → Sto → Res D) (F : Env → Sto → Res (List D)) : Env → Sto → Res D := fun ρ S => (F ρ S).bind fun ds S1 => if ds.length = n then m ds S1 else .bad
section
variable {X : Cx} {E : EK} {e : Expr} {es : List Expr} {pos p : Pos} {tas : TA} {Fs : Env → Sto → Res (List D)}
/-- a call whose errors are wished for at the slots -/
def tCallS' (sp : Sp) (E : EK) (t : TA) : TE := fun σ H Q => t σ H fun vs H1 => sp vs H1 Q (E σ)
theorem so_call {n : Nat} {m : List D → Sto → Res D} (ha : SoA E tas Fs) : SoE E (tCallS' (spF n m) E tas) (callF n m Fs) := fun η B S σ ρ H w s =>
  Ev.bind (T := tas σ H) (T' := fun vs H1 Q => spF n m vs H1 Q (E σ)) (ha η B S σ ρ H w s) fun ds S1 vs η1 B1 H1 n1 r1 => by
    by_cases hl : ds.length = n
    · rw [if_pos hl]
      exact ev_spF hl n1.wd r1
    · rw [if_neg hl]
      trivial
/-- what a callee lets out is taken at the slots -/
def PassS (CX : CXT) (X : Cx) (E : EK) : Prop := ∀ (pins : List (Addr × Obj)) (σ : L2.St) (H : Hp) (s : Shared) (e : Value) (s' : Shared), Inv X pins σ H s → CX X.stack H s (E σ) e s' → X.xe e s'
theorem de_call {CX : CXT} {n k : Nat} {m : List D → Sto → Res D} {f : Addr} {fd : FuncData} {ps : List Str} {x : Str} (G : FnOk X.prog X.w X.K X.mg X.base CX k f fd ps (spF n m)) (hr : Room k X.A) (hm : X.mg x = some (.ref f)) (hk : PySem.W.keepIn X.K (.ref f) = true) (hb : Binds X.K fd ps [])
    (hx : PassS CX X E) (ha : DA X E (e :: es) tas Fs) (hg : Gl X x := by rfl) (hdb : (x == ("__debug__" : Str)) = false := by decide) (he : starEach (e :: es) X.env = (false, eval e X.env) :: starEach es X.env := by rfl) (hpl : (backTo pos (starEach es X.env)).any (·.1) = false := by rfl) :
    DE X E (.Call (.Name x p) (e :: es) [] pos) (tCallS' (spF n m) E tas) (callF n m Fs) := by
  refine ⟨?_, so_call ha.2⟩
  have z := pe_callSD (p := p) (E := E) (dvs := []) G hr hg hm hk hb .nil (fun σ pins H s e s' I c => hx pins σ H s e s' I c) ha.1 hdb he hpl
  have e : tCallSD (spF n m) [] E tas = tCallS' (spF n m) E tas := by
    funext σ H Q
    unfold tCallSD tCallS'
    simp only [List.append_nil]
  rw [← e]
  exact z
end
/-! ### statements -/
inductive Flow where
  | nx (ρ : Env) (S : Sto) | rt (d : D) (S : Sto) | bk (ρ : Env) (S : Sto) | ct (ρ : Env) (S : Sto) | ex (C : Addr) (fs : List (Str × D)) (ρ : Env) (S : Sto) | bad
def Sv (η B : List Addr) (E : EK) (T : Ends → Prop) (H : Hp) : Flow → Prop
  | .nx ρ S' => ∀ D : Ends, (∀ σ' η' B' H', Nx η B η' B' S' H H' → Sl η' (cold B' H') σ' ρ → D.nx σ' H') → T D
  | .rt d S' => ∀ D : Ends, (∀ v η' B' H', Nx η B η' B' S' H H' → Rp η' (cold B' H') d v → D.rt v H') → T D
  | .bk ρ S' => ∀ D : Ends, (∀ σ' η' B' H', Nx η B η' B' S' H H' → Sl η' (cold B' H') σ' ρ → D.bk σ' H') → T D
  | .ct ρ S' => ∀ D : Ends, (∀ σ' η' B' H', Nx η B η' B' S' H H' → Sl η' (cold B' H') σ' ρ → D.ct σ' H') → T D
  | .ex C fs ρ S' => ∀ D : Ends, (∀ σ' dd ws η' B' H', Nx η B η' B' S' H H' → H dd = none → cold B' H' dd = some (.xd ws) → RpF η' (cold B' H') fs ws → Sl η' (cold B' H') σ' ρ → E σ' (.ref C) (some dd) H') → T D
  | .bad => True
def SoS (E : EK) (t : TS) (Φ : Env → Sto → Flow) : Prop := ∀ η B S σ ρ H, Wd η B S H → Sl η (cold B H) σ ρ → Sv η B E (fun D => t D σ H) H (Φ ρ S)
def DS (X : Cx) (E : EK) (st : Stmt) (t : TS) (Φ : Env → Sto → Flow) : Prop := PS X st t ∧ SoS E t Φ
def DSs (X : Cx) (E : EK) (st : List Stmt) (t : TS) (Φ : Env → Sto → Flow) : Prop := PSs X st t ∧ SoS E t Φ
def Res.flow {α : Type} (r : Res α) (ρ : Env) (k : α → Sto → Flow) : Flow := match r with
  | .ok a S => k a S
  | .exc C fs S => .ex C fs ρ S
  | .bad => .bad
@[simp] theorem Res.flow_ok {α : Type} (a : α) (S : Sto) (ρ : Env) (k : α → Sto → Flow) : (Res.ok a S).flow ρ k = k a S := rfl
@[simp] theorem Res.flow_bad {α : Type} (ρ : Env) (k : α → Sto → Flow) : (Res.bad : Res α).flow ρ k = .bad := rfl
@[simp] theorem Res.flow_exc {α : Type} (C : Addr) (fs : List (Str × D)) (S : Sto) (ρ : Env) (k : α → Sto → Flow) : (Res.exc C fs S : Res α).flow ρ k = .ex C fs ρ S := rfl
theorem Sv.of {α β : Type} {R : List Addr → Hp → α → β → Prop} {η B : List Addr} {E : EK} {σ : L2.St} {ρ : Env} {T : (β → Hp → Prop) → Prop} {T' : β → Hp → Ends → Prop} {H : Hp} {r : Res α} {k : α → Sto → Flow}
    (s : Sl η (cold B H) σ ρ) (h : Ev R η B (E σ) T H r) (hk : ∀ a S1 b η1 B1 H1, Nx η B η1 B1 S1 H H1 → R η1 (cold B1 H1) a b → Sv η1 B1 E (T' b H1) H1 (k a S1)) : Sv η B E (fun D => T fun b H1 => T' b H1 D) H (r.flow ρ k) := by
  cases r with
  | bad => trivial
  | exc C fs S1 => exact fun D q => h _ fun dd ws η' B' H' n h1 h2 h3 => q σ dd ws η' B' H' n h1 h2 h3 (n.sl s)
  | ok a S1 =>
    show Sv η B E _ H (k a S1)
    cases e : k a S1 with
    | bad => trivial
    | ex C fs ρ' S2 =>
      intro D q
      refine h _ fun b η1 B1 H1 n1 r1 => ?_
      have z := hk a S1 b η1 B1 H1 n1 r1
      rw [e] at z
      exact z D fun σ' dd ws η2 B2 H2 n2 hd h2 f2 s2 => q σ' dd ws η2 B2 H2 (n1.trans n2) (n1.back hd) h2 f2 s2
    | nx ρ S2 =>
      intro D q
      refine h _ fun b η1 B1 H1 n1 r1 => ?_
      have z := hk a S1 b η1 B1 H1 n1 r1
      rw [e] at z
      exact z D fun σ' η2 B2 H2 n2 r2 => q σ' η2 B2 H2 (n1.trans n2) r2
    | bk ρ S2 =>
      intro D q
      refine h _ fun b η1 B1 H1 n1 r1 => ?_
      have z := hk a S1 b η1 B1 H1 n1 r1
      rw [e] at z
      exact z D fun σ' η2 B2 H2 n2 r2 => q σ' η2 B2 H2 (n1.trans n2) r2
    | ct ρ S2 =>
      intro D q
      refine h _ fun b η1 B1 H1 n1 r1 => ?_
      have z := hk a S1 b η1 B1 H1 n1 r1
      rw [e] at z
      exact z D fun σ' η2 B2 H2 n2 r2 => q σ' η2 B2 H2 (n1.trans n2) r2
    | rt d S2 =>
      intro D q
      refine h _ fun b η1 B1 H1 n1 r1 => ?_
      have z := hk a S1 b η1 B1 H1 n1 r1
      rw [e] at z
      exact z D fun σ' η2 B2 H2 n2 r2 => q σ' η2 B2 H2 (n1.trans n2) r2
def Flow.seq (f : Flow) (k : Env → Sto → Flow) : Flow := match f with
  | .nx ρ S => k ρ S
  | x => x
@[simp] theorem Flow.seq_nx (ρ : Env) (S : Sto) (k : Env → Sto → Flow) : (Flow.nx ρ S).seq k = k ρ S := rfl
@[simp] theorem Flow.seq_rt (d : D) (S : Sto) (k : Env → Sto → Flow) : (Flow.rt d S).seq k = .rt d S := rfl
@[simp] theorem Flow.seq_ex (C : Addr) (fs : List (Str × D)) (ρ : Env) (S : Sto) (k : Env → Sto → Flow) : (Flow.ex C fs ρ S).seq k = .ex C fs ρ S := rfl
@[simp] theorem Flow.seq_bad (k : Env → Sto → Flow) : Flow.bad.seq k = .bad := rfl
@[simp] theorem Flow.seq_bk (ρ : Env) (S : Sto) (k : Env → Sto → Flow) : (Flow.bk ρ S).seq k = .bk ρ S := rfl
@[simp] theorem Flow.seq_ct (ρ : Env) (S : Sto) (k : Env → Sto → Flow) : (Flow.ct ρ S).seq k = .ct ρ S := rfl
section
variable {X : Cx} {E : EK} {e a b c : Expr} {es : List Expr} {st : Stmt} {sts body orelse : List Stmt} {pos p : Pos} {te ta tb : TE} {tc : TT} {tas : TA} {t u : TS} {F : Env → Sto → Res D} {Tc : Env → Sto → Res Bool} {Fs Fi : Env → Sto → Res (List D)} {Φ Ψ : Env → Sto → Flow}
@[simp] def fNext : Env → Sto → Flow := fun ρ S => .nx ρ S
theorem dss_nil : DSs X E [] tNext fNext := ⟨pss_nil, fun η B S σ ρ H w s D k => k σ η B H w.refl s⟩
theorem dss_one (h : DS X E st t Φ) : DSs X E [st] t Φ := ⟨pss_one h.1, h.2⟩
@[simp] def fSeq (Φ Ψ : Env → Sto → Flow) : Env → Sto → Flow := fun ρ S => (Φ ρ S).seq Ψ
theorem so_seq (h1 : SoS E t Φ) (h2 : SoS E u Ψ) : SoS E (tSeq t u) (fSeq Φ Ψ) := fun η B S σ ρ H w s => by
  have z := h1 η B S σ ρ H w s
  unfold fSeq
  cases e : Φ ρ S with
  | bad => trivial
  | rt d S' => rw [e] at z; exact fun D k => z _ k
  | bk ρ' S' => rw [e] at z; exact fun D k => z _ k
  | ct ρ' S' => rw [e] at z; exact fun D k => z _ k
  | ex C fs ρ' S' => rw [e] at z; exact fun D k => z _ k
  | nx ρ' S' =>
    rw [e] at z
    show Sv η B E _ H (Ψ ρ' S')
    cases e2 : Ψ ρ' S' with
    | bad => trivial
    | rt d S2 =>
      intro D k
      refine z _ fun σ1 η1 B1 H1 n1 s1 => ?_
      have y := h2 η1 B1 S' σ1 ρ' H1 n1.wd s1
      rw [e2] at y
      exact y D fun v η2 B2 H2 n2 r2 => k v η2 B2 H2 (n1.trans n2) r2
    | nx ρ2 S2 =>
      intro D k
      refine z _ fun σ1 η1 B1 H1 n1 s1 => ?_
      have y := h2 η1 B1 S' σ1 ρ' H1 n1.wd s1
      rw [e2] at y
      exact y D fun v η2 B2 H2 n2 r2 => k v η2 B2 H2 (n1.trans n2) r2
    | bk ρ2 S2 =>
      intro D k
      refine z _ fun σ1 η1 B1 H1 n1 s1 => ?_
      have y := h2 η1 B1 S' σ1 ρ' H1 n1.wd s1
      rw [e2] at y
      exact y D fun v η2 B2 H2 n2 r2 => k v η2 B2 H2 (n1.trans n2) r2
    | ct ρ2 S2 =>
      intro D k
      refine z _ fun σ1 η1 B1 H1 n1 s1 => ?_
      have y := h2 η1 B1 S' σ1 ρ' H1 n1.wd s1
      rw [e2] at y
      exact y D fun v η2 B2 H2 n2 r2 => k v η2 B2 H2 (n1.trans n2) r2
    | ex C fs ρ2 S2 =>
      intro D k
      refine z _ fun σ1 η1 B1 H1 n1 s1 => ?_
      have y := h2 η1 B1 S' σ1 ρ' H1 n1.wd s1
      rw [e2] at y
      exact y D fun σ' dd ws η2 B2 H2 n2 hd h2 f2 s2 => k σ' dd ws η2 B2 H2 (n1.trans n2) (n1.back hd) h2 f2 s2
theorem dss_cons (h1 : DS X E st t Φ) (h2 : DSs X E sts u Ψ) : DSs X E (st :: sts) (tSeq t u) (fSeq Φ Ψ) := ⟨pss_cons h1.1 h2.1, so_seq h1.2 h2.2⟩
@[simp] def fRet (F : Env → Sto → Res D) : Env → Sto → Flow := fun ρ S => (F ρ S).flow ρ .rt
theorem ds_ret (h : DE X E e te F) : DS X E (.Return (some e) pos) (tRet te) (fRet F) :=
  ⟨ps_ret h.1, fun η B S σ ρ H w s => Sv.of s (T := te σ H) (T' := fun v H1 D => D.rt v H1) (h.2 η B S σ ρ H w s) fun d S1 v η1 B1 H1 n1 r1 D k => k v η1 B1 H1 n1.wd.refl r1⟩
@[simp] def fSet (i : Nat) (F : Env → Sto → Res D) : Env → Sto → Flow := fun ρ S => (F ρ S).flow ρ fun d S1 => .nx (ρ.set i (some d)) S1
theorem so_set {i : Nat} (h : SoE E te F) : SoS E (tAsg te (gName i)) (fSet i F) := fun η B S σ ρ H w s =>
  Sv.of s (T := te σ H) (T' := fun v H1 D => D.nx (σ.set i (some v)) H1) (h η B S σ ρ H w s) fun d S1 v η1 B1 H1 n1 r1 D k => k _ η1 B1 H1 n1.wd.refl ((n1.sl s).set r1)
theorem ds_set (i : Nat) {x : Str} {pos' : Pos} (hN : X.N.Nodup) (h : DE X E e te F) (hi : X.N[i]? = some x := by rfl) (hx : Loc X.env.scope x := by first | exact Or.inl rfl | exact Or.inr rfl) (hs : swapsWith e (some (.Name x pos')) pos.line X.env = pure false := by rfl) (hf : X.fn x = true ∨ X.env.scope.names.lookup x = some .local := by first | exact .inl rfl | exact .inr rfl | assumption) :
    DS X E (.Assign [.Name x pos'] e pos) (tAsg te (gName i)) (fSet i F) := ⟨ps_set hN hi hx h.1 hs hf, so_set h.2⟩
@[simp] def fPar (i j : Nat) (F : Env → Sto → Res (List D)) : Env → Sto → Flow := fun ρ S => (F ρ S).flow ρ fun ds S1 => match ds with
  | [a, b] => .nx ((ρ.set i (some a)).set j (some b)) S1
  | _ => .bad
theorem so_par {i j : Nat} (h : SoA E tas Fs) : SoS E (tPar i j tas) (fPar i j Fs) := fun η B S σ ρ H w s =>
  Sv.of s (T := tas σ H) (T' := fun vs H1 D => ∃ v w, vs = [v, w] ∧ D.nx ((σ.set i (some v)).set j (some w)) H1) (h η B S σ ρ H w s) fun ds S1 vs η1 B1 H1 n1 r1 => by
    split
    · obtain ⟨v1, r2, rfl, ra, v2, r3, rfl, rb, rfl⟩ := r1
      exact fun D k => ⟨v1, v2, rfl, k _ η1 B1 H1 n1.wd.refl (((n1.sl s).set ra).set rb)⟩
    · trivial
@[simp] def fExpr (F : Env → Sto → Res D) : Env → Sto → Flow := fun ρ S => (F ρ S).flow ρ fun _ S1 => .nx ρ S1
theorem ds_expr (h : DE X E e te F) (hs : swapsWith e none pos.line X.env = pure false := by rfl) : DS X E (.Expr e pos) (tDrop te) (fExpr F) :=
  ⟨ps_expr h.1 hs, fun η B S σ ρ H w s => Sv.of s (T := te σ H) (T' := fun v H1 D => D.nx σ H1) (h.2 η B S σ ρ H w s) fun d S1 v η1 B1 H1 n1 r1 D k => k σ η1 B1 H1 n1.wd.refl (n1.sl s)⟩
@[simp] def fIf (T : Env → Sto → Res Bool) (Φ Ψ : Env → Sto → Flow) : Env → Sto → Flow := fun ρ S => (T ρ S).flow ρ fun b S1 => if b = true then Φ ρ S1 else Ψ ρ S1
theorem ds_if (hc : DT X E c tc Tc) (h1 : DSs X E body t Φ) (h2 : DSs X E orelse u Ψ) : DS X E (.If c body orelse pos) (tIfS tc t u) (fIf Tc Φ Ψ) :=
  ⟨ps_if hc.1 h1.1 h2.1, fun η B S σ ρ H w s => Sv.of s (T := tc σ H) (T' := fun b H1 D => if b = true then t D σ H1 else u D σ H1) (hc.2 η B S σ ρ H w s) fun b S1 b' η1 B1 H1 n1 r1 => by
    subst r1
    cases b with
    | true => exact h1.2 η1 B1 S1 σ ρ H1 n1.wd (n1.sl s)
    | false => exact h2.2 η1 B1 S1 σ ρ H1 n1.wd (n1.sl s)⟩
/-! ### for -/
def forF (gF : D → Env → Option Env) (Φ : Env → Sto → Flow) : List D → Env → Sto → Flow
  | [], ρ, S => .nx ρ S
  | d :: ds, ρ, S => match gF d ρ with
    | none => .bad
    | some ρ1 => match Φ ρ1 S with
      | .nx ρ2 S2 => forF gF Φ ds ρ2 S2
      | .ct ρ2 S2 => forF gF Φ ds ρ2 S2
      | .bk ρ2 S2 => .nx ρ2 S2
      | .rt d S2 => .rt d S2
      | .ex C fs ρ2 S2 => .ex C fs ρ2 S2
      | .bad => .bad
@[simp] def fFor (Fi : Env → Sto → Res (List D)) (gF : D → Env → Option Env) (Φ : Env → Sto → Flow) : Env → Sto → Flow := fun ρ S => (Fi ρ S).flow ρ fun items S1 => forF gF Φ items ρ S1
theorem so_for {wi : TI} {g : TG} {is : List Nat} {gF : D → Env → Option Env} (hi : SoI E wi Fi) (hg : SoG g is gF) (hb : SoS E t Φ) : SoS E (tFor wi g t) (fFor Fi gF Φ) := fun η B S σ ρ H w s => by
  refine Sv.of s (T := wi σ H) (T' := fun (J : It) (H1 : Hp) (D : Ends) => ∃ W : Nat → Nat → L2.St → Hp → Prop, (∃ m, W 0 m σ H1) ∧ ∀ i m σ H, W i m σ H →
    (J.stop i H ∧ D.nx σ H) ∨ (J.go i H ∧ ∃ N : L2.St → Hp → Prop, (∀ σ' H', N σ' H' → ∃ m', m' < m ∧ W (i + 1) m' σ' H') ∧ ∀ x H', J.yld i H x H' → g x σ H' fun σ2 H2 => t { D with nx := N, ct := N, bk := D.nx } σ2 H2)) (hi η B S σ ρ H w s) fun items S1 J η1 B1 H1 n1 ri => ?_
  obtain ⟨G, Y, wk, hG, hY⟩ := ri
  have s1 := n1.sl s
  -- the loop, whatever its end R is
  have loop : ∀ (R : Flow) (D : Ends), forF gF Φ items ρ S1 = R → R ≠ .bad → (∀ ρ' S' σ' η' B' H', R = .nx ρ' S' → Nx η1 B1 η' B' S' H1 H' → Sl η' (cold B' H') σ' ρ' → D.nx σ' H') → (∀ d S' v η' B' H', R = .rt d S' → Nx η1 B1 η' B' S' H1 H' → Rp η' (cold B' H') d v → D.rt v H') →
      (∀ C fs ρ' S' σ' dd ws η' B' H', R = .ex C fs ρ' S' → Nx η1 B1 η' B' S' H1 H' → H1 dd = none → cold B' H' dd = some (.xd ws) → RpF η' (cold B' H') fs ws → Sl η' (cold B' H') σ' ρ' → E σ' (.ref C) (some dd) H') →
      ∃ W : Nat → Nat → L2.St → Hp → Prop, (∃ m, W 0 m σ H1) ∧ ∀ i m σ H, W i m σ H →
    (J.stop i H ∧ D.nx σ H) ∨ (J.go i H ∧ ∃ N : L2.St → Hp → Prop, (∀ σ' H', N σ' H' → ∃ m', m' < m ∧ W (i + 1) m' σ' H') ∧ ∀ x H', J.yld i H x H' → g x σ H' fun σ2 H2 => t { D with nx := N, ct := N, bk := D.nx } σ2 H2) := by
    intro R D hR nb kn kr ke
    refine for_it wk (fun i σ' H' => ∃ ηi Bi ρi Si, forF gF Φ (items.drop i) ρi Si = R ∧ Nx η1 B1 ηi Bi Si H1 H' ∧ Sl ηi (cold Bi H') σ' ρi) ⟨η1, B1, ρ, S1, hR, n1.wd.refl, s1⟩ ?_ ?_ ?_
    · rintro i σ' H' _ ⟨ηi, Bi, ρi, Si, _, n', _⟩
      exact hG ηi Bi Si H' n'.up n'.wd n'.same
    · rintro i x σ' H' H'' hlt ⟨ηi, Bi, ρi, Si, hr, n', s'⟩ y
      obtain ⟨n2, d, hd, rd⟩ := hY ηi Bi Si H' i x H'' n'.up n'.wd n'.same hlt y
      have hdrop : items.drop i = d :: items.drop (i + 1) := by
        rw [List.drop_eq_getElem_cons hlt]
        congr 1
        rw [List.getElem?_eq_getElem hlt] at hd
        exact Option.some.inj hd
      rw [hdrop] at hr
      unfold forF at hr
      cases hg1 : gF d ρi with
      | none => rw [hg1] at hr; exact absurd hr.symm nb
      | some ρ1 =>
        rw [hg1] at hr
        dsimp only at hr
        refine hg ηi Bi Si H'' d x σ' ρi ρ1 n2.wd (n2.sl s') rd hg1 _ fun σ2 s2 _ => ?_
        have n3 := n'.trans n2
        have z := hb ηi Bi Si σ2 ρ1 H'' n2.wd s2
        cases hf : Φ ρ1 Si with
        | bad => rw [hf] at hr; exact absurd hr.symm nb
        | nx ρ2 S2 => rw [hf] at hr z; exact z _ fun σ3 η3 B3 H3 n4 s4 => ⟨η3, B3, ρ2, S2, hr, n3.trans n4, s4⟩
        | ct ρ2 S2 => rw [hf] at hr z; exact z _ fun σ3 η3 B3 H3 n4 s4 => ⟨η3, B3, ρ2, S2, hr, n3.trans n4, s4⟩
        | bk ρ2 S2 => rw [hf] at hr z; exact z _ fun σ3 η3 B3 H3 n4 s4 => kn ρ2 S2 σ3 η3 B3 H3 hr.symm (n3.trans n4) s4
        | rt d S2 => rw [hf] at hr z; exact z _ fun v η3 B3 H3 n4 s4 => kr d S2 v η3 B3 H3 hr.symm (n3.trans n4) s4
        | ex C fs ρ2 S2 => rw [hf] at hr z; exact z _ fun σ3 dd ws η3 B3 H3 n4 hd h2 f2 s2 => ke C fs ρ2 S2 σ3 dd ws η3 B3 H3 hr.symm (n3.trans n4) (n3.back hd) h2 f2 s2
    · rintro σ' H' ⟨ηi, Bi, ρi, Si, hr, n', s'⟩
      rw [List.drop_length] at hr
      exact kn ρi Si σ' ηi Bi H' hr.symm n' s'
  show Sv η1 B1 E _ H1 (forF gF Φ items ρ S1)
  cases hR : forF gF Φ items ρ S1 with
  | bad => trivial
  | nx ρ' S' => exact fun D k => loop _ D hR (fun z => nomatch z) (fun ρ2 S2 σ' η' B' H' e n' s' => by cases e; exact k σ' η' B' H' n' s') (fun _ _ _ _ _ _ e => nomatch e) (fun _ _ _ _ _ _ _ _ _ _ e => nomatch e)
  | rt d S' => exact fun D k => loop _ D hR (fun z => nomatch z) (fun _ _ _ _ _ _ e => nomatch e) (fun d2 S2 v η' B' H' e n' s' => by cases e; exact k v η' B' H' n' s') (fun _ _ _ _ _ _ _ _ _ _ e => nomatch e)
  | ex C fs ρ' S' => exact fun D k => loop _ D hR (fun z => nomatch z) (fun _ _ _ _ _ _ e => nomatch e) (fun _ _ _ _ _ _ e => nomatch e) (fun C2 fs2 ρ2 S2 σ2 dd ws η' B' H' e n' hd h2 f2 s2 => by cases e; exact k σ2 dd ws η' B' H' n' hd h2 f2 s2)
  | bk ρ' S' =>
    exfalso
    have no : ∀ (ds : List D) (ρ : Env) (S : Sto) (ρ' : Env) (S' : Sto), forF gF Φ ds ρ S ≠ .bk ρ' S' := by
      intro ds
      induction ds with
      | nil => intro ρ S ρ' S' z; cases z
      | cons d ds ih =>
        intro ρ S ρ' S' z
        unfold forF at z
        split at z
        · cases z
        · split at z <;> first | (cases z; done) | exact ih _ _ _ _ z
    exact no _ _ _ _ _ hR
  | ct ρ' S' =>
    exfalso
    have no : ∀ (ds : List D) (ρ : Env) (S : Sto) (ρ' : Env) (S' : Sto), forF gF Φ ds ρ S ≠ .ct ρ' S' := by
      intro ds
      induction ds with
      | nil => intro ρ S ρ' S' z; cases z
      | cons d ds ih =>
        intro ρ S ρ' S' z
        unfold forF at z
        split at z
        · cases z
        · split at z <;> first | (cases z; done) | exact ih _ _ _ _ z
    exact no _ _ _ _ _ hR
theorem ds_for {tg iter : Expr} {wi : TI} {g : TG} {is : List Nat} {gF : D → Env → Option Env} (hp : PassesOwn (model X.prog X.w) X.A X.env X.xe) (hi : DI X E tg iter wi Fi) (pg : PG X tg g) (hg : SoG g is gF) (hb : DSs X E body t Φ) (hc : X.calm = true := by rfl) (hs : ∀ x, foldedSetIterable iter X.env x = pure x := by intro _; rfl) :
    DS X E (.For tg iter body [] pos) (tFor wi g t) (fFor Fi gF Φ) := ⟨ps_for hp hc hi.1 pg hb.1 hs, so_for hi.2 hg hb.2⟩
end
end DL
set_option Elab.async false
set_option linter.all false
set_option maxRecDepth 100000
set_option maxHeartbeats 4000000
set_option autoImplicit false
namespace DL
open PySem PySem.Spec PyProof.Rows L2
@[simp] def startE (N : List Str) (ds : List D) : Env := ds.map some ++ List.replicate (N.length - ds.length) none
theorem sl_start {η : List Addr} {Hc : Hp} {N : List Str} {ds : List D} {vs : List V} (r : RpL η Hc ds vs) : Sl η Hc (L2.start N vs) (startE N ds) := by
  have hl := r.length
  refine ⟨?_, fun i d h => ?_⟩
  · unfold L2.start startE
    rw [List.length_append, List.length_append, List.length_map, List.length_map, List.length_replicate, List.length_replicate, hl]
  · unfold startE at h
    unfold L2.start
    by_cases hi : i < ds.length
    · rw [List.getElem?_append_left (by rw [List.length_map]; exact hi), List.getElem?_map] at h
      cases e : ds[i]? with
      | none => rw [e] at h; cases h
      | some d' =>
        rw [e] at h
        cases h
        obtain ⟨v, e1, r1⟩ := r.got e
        refine ⟨v, ?_, r1⟩
        rw [List.getElem?_append_left (by rw [List.length_map, hl]; exact hi), List.getElem?_map, e1]
        rfl
    · rw [List.getElem?_append_right (by rw [List.length_map]; omega)] at h
      rw [List.getElem?_replicate] at h
      split at h <;> cases h
@[simp] def runF (N : List Str) (Φ : Env → Sto → Flow) (ds : List D) (S : Sto) : Res D := match Φ (startE N ds) S with
  | .rt d S' => .ok d S'
  | .nx _ S' => .ok .non S'
  | .ex C fs _ S' => .exc C fs S'
  | _ => .bad
def Imp (a b : Res D) : Prop := a = .bad ∨ b = a
section
variable {P : Program} {w : World} {K : PySem.W.Frag} {mg : Str → Option Value} {base : Heap}
theorem pass_fn' {N : List Str} {qual : Str} {sc : Scope} {f : Addr} {cdv : Value} {A : Around} {outer : List PySem.Env} {s : Shared} {H : Hp} {E : XK} : Passes (L2.CX P w) (cxOf (L2.CX P w) P w K mg base N qual sc f cdv A outer s H E) E :=
  passes_call (X := cxOf (L2.CX P w) P w K mg base N qual sc f cdv A outer s H E) (takes_of rfl rfl rfl rfl) fun _ _ _ _ z => z
theorem pass_fn {N : List Str} {qual : Str} {sc : Scope} {f : Addr} {cdv : Value} {A : Around} {outer : List PySem.Env} {s : Shared} {H : Hp} {E : XK} : PassS (L2.CX P w) (cxOf (L2.CX P w) P w K mg base N qual sc f cdv A outer s H E) (fun _ => E) := pass_fn'
theorem passN {X : Cx} : PassS (L2.CX X.prog X.w) X EN := passL
theorem own_fn {N : List Str} {qual : Str} {sc : Scope} {f : Addr} {cdv : Value} {A : Around} {outer : List PySem.Env} {s : Shared} {H : Hp} {E : XK} :
    PassesOwn (model P w) (cxOf (L2.CX P w) P w K mg base N qual sc f cdv A outer s H E).A (cxOf (L2.CX P w) P w K mg base N qual sc f cdv A outer s H E).env (cxOf (L2.CX P w) P w K mg base N qual sc f cdv A outer s H E).xe :=
  passes_of (X := cxOf (L2.CX P w) P w K mg base N qual sc f cdv A outer s H E) rfl
theorem sv_run {N : List Str} {E : XK} {t : TS} {Φ : Env → Sto → Flow} (so : SoS (fun _ => E) t Φ) {η B : List Addr} {S : Sto} {H : Hp} {ds : List D} {vs : List V} {m : Res D} {Q : VK} (wd : Wd η B S H) (r : RpL η (cold B H) ds vs) (im : Imp m (runF N Φ ds S))
    (q : PostR η B H Q E m) : t { nx := fun _ H' => Q .non H', rt := Q } (L2.start N vs) H := by
  have z := so η B S (L2.start N vs) (startE N ds) H wd (sl_start r)
  rcases im with rfl | im
  · exact q.elim
  · unfold runF at im
    cases e : Φ (startE N ds) S with
    | bad => rw [e] at im; rw [← im] at q; exact q.elim
    | bk ρ S' => rw [e] at im; rw [← im] at q; exact q.elim
    | ct ρ S' => rw [e] at im; rw [← im] at q; exact q.elim
    | rt d S' => rw [e] at im z; rw [← im] at q; exact z _ fun v η' B' H' n r => q v η' B' H' n r
    | nx ρ S' => rw [e] at im z; rw [← im] at q; exact z _ fun σ' η' B' H' n s => q .non η' B' H' n rfl
    | ex C fs ρ S' => rw [e] at im z; rw [← im] at q; exact z _ fun σ' dd ws η' B' H' n h1 h2 h3 _ => q dd ws η' B' H' n h1 h2 h3
/-- a def by its body's data -/
theorem fnd {x qual : Str} {st : Stmt} {f : Addr} {fd : FuncData} {N ps : List Str} {k : Nat} (m : List D → Sto → Res D) (F : Fun K x qual st f fd) (Sc : FnScope N ps (defScope st))
    (hbody : ∀ (cdv : Value) (A : Around) (outer : List PySem.Env) (s : Shared) (H : Hp) (E : XK), Room k (A.deeper (envOfC qual (defScope st) s.heap.objs.size f cdv)) →
      ∃ t Φ, DSs (cxOf (L2.CX P w) P w K mg base N qual (defScope st) f cdv A outer s H E) (fun _ => E) (defBody st) t Φ ∧ ∀ ds S, ds.length = ps.length → Imp (m ds S) (runF N Φ ds S)) : FnOk P w K mg base (L2.CX P w) (k + 1) f fd ps (spF ps.length m) := by
  refine F.okX Sc (fun vs H Q E h => ?_) (fun cdv A outer s H vs Q E hr h => ?_)
  · obtain ⟨η, B, S, ds, hl, _, r, _⟩ := h
    rw [r.length, hl]
  · obtain ⟨η, B, S, ds, hl, wd, r, q⟩ := h
    obtain ⟨t, Φ, ⟨pss, so⟩, im⟩ := hbody cdv A outer s H E hr
    exact ⟨t, pss, sv_run so wd r (im ds S hl) q⟩
end
/-! ### loops of pure parts -/
theorem lcF_map {gF : D → Env → Option Env} {T : Env → Sto → Res Bool} {F : Env → Sto → Res D} {ρ : Env} {S : Sto} {f : D → D} : ∀ {items : List D} {acc : List D}, (∀ d ∈ items, ∃ ρ1, gF d ρ = some ρ1 ∧ T ρ1 S = .ok true S ∧ F ρ1 S = .ok (f d) S) →
    lcF gF T F ρ items S acc = .ok (acc ++ items.map f) S
  | [], acc, _ => by simp [lcF]
  | d :: ds, acc, h => by
    obtain ⟨ρ1, h1, h2, h3⟩ := h d List.mem_cons_self
    unfold lcF
    rw [h1]
    simp only [h2, h3]
    rw [lcF_map fun d' hd => h d' (List.mem_cons_of_mem _ hd)]
    simp
theorem lcF_filter {gF : D → Env → Option Env} {T : Env → Sto → Res Bool} {F : Env → Sto → Res D} {ρ : Env} {S : Sto} {f : D → D} {p : D → Bool} : ∀ {items : List D} {acc : List D}, (∀ d ∈ items, ∃ ρ1, gF d ρ = some ρ1 ∧ T ρ1 S = .ok (p d) S ∧ (p d = true → F ρ1 S = .ok (f d) S)) →
    lcF gF T F ρ items S acc = .ok (acc ++ (items.filter p).map f) S
  | [], acc, _ => by simp [lcF]
  | d :: ds, acc, h => by
    obtain ⟨ρ1, h1, h2, h3⟩ := h d List.mem_cons_self
    have ih := fun acc => lcF_filter (acc := acc) fun d' hd => h d' (List.mem_cons_of_mem _ hd)
    unfold lcF
    rw [h1]
    simp only [h2]
    cases hp : p d with
    | true =>
      simp only [h3 hp]
      rw [ih]
      simp [List.filter_cons, hp]
    | false =>
      simp only []
      rw [ih]
      simp [List.filter_cons, hp]
/-! ### operations on data -/
def small (n : Nat) : Bool := decide (n ≤ 100000)
@[simp] def opAdd (S : Sto) (x y : D) : Option D := match x, y with
  | .int i, .int j => some (.int (i + j))
  | .str a, .str b => if a.length + b.length ≤ 100000 then some (.str (a ++ b)) else none
  | x, y => match vL S x, vL S y with
    | some a, some b => if a.length + b.length ≤ 100000 then some (.lst (a ++ b)) else none
    | _, _ => none
def rAddA : R2 := fun x y H Q => (∃ i j, x = .int i ∧ y = .int j ∧ Q (.int (i + j)) H) ∨ (∃ i j, x = .str i ∧ y = .str j ∧ i.length + j.length ≤ sizeLine ∧ Q (.str (i ++ j)) H) ∨ rCat x y H Q
theorem or_add {X : Cx} : OpR X (binaryOp .Add) rAddA := OpR.or op_add (OpR.or op_add_str op_cat)
theorem v_add : V2 rAddA opAdd := fun E η B S H x y u v w rx ry => by
  unfold opAdd
  split
  · obtain rfl := rx; obtain rfl := ry
    exact fun Q k => .inl ⟨_, _, rfl, rfl, k _ _ _ H w.refl rfl⟩
  · obtain rfl := rx; obtain rfl := ry
    split
    · rename_i h
      exact fun Q k => .inr (.inl ⟨_, _, rfl, rfl, size_ok h, k _ _ _ H w.refl rfl⟩)
    · trivial
  · split
    · rename_i h1 h2
      obtain ⟨a, xs, rfl, ha, ra⟩ := w.seeL rx h1
      obtain ⟨b, ys, rfl, hb, rb⟩ := w.seeL ry h2
      split
      · rename_i h
        exact fun Q k => .inr (.inr ⟨a, b, xs, ys, rfl, rfl, ha, hb, by rw [ra.length, rb.length]; exact size_ok h, fun p hp => k _ _ _ _ (w.new hp) ⟨p, _, rfl, w.cold_new hp, (w.new hp).rpL (ra.append rb)⟩⟩)
      · trivial
    · trivial
@[simp] def opI (f : Int → Int → D) (_ : Sto) : D → D → Option D
  | .int i, .int j => some (f i j)
  | _, _ => none
theorem v_I0 {g : Int → Int → V} {f : Int → Int → D} (h : ∀ i j η H, Rp η H (f i j) (g i j)) : V2 (rI0 g) (opI f) := fun E η B S H x y u v w rx ry => by
  unfold opI
  split
  · obtain rfl := rx; obtain rfl := ry
    exact fun Q k => ⟨_, _, rfl, rfl, k _ η B H w.refl (h _ _ _ _)⟩
  · trivial
theorem v_sub : V2 (rI0 fun i j => .int (i - j)) (opI fun i j => .int (i - j)) := v_I0 fun _ _ _ _ => rfl
theorem v_le : V2 (rI0 fun i j => .bl (decide (i ≤ j))) (opI fun i j => .bl (decide (i ≤ j))) := v_I0 fun _ _ _ _ => rfl
theorem v_lt : V2 (rI0 fun i j => .bl (decide (i < j))) (opI fun i j => .bl (decide (i < j))) := v_I0 fun _ _ _ _ => rfl
theorem v_gt : V2 (rI0 fun i j => .bl (decide (j < i))) (opI fun i j => .bl (decide (j < i))) := v_I0 fun _ _ _ _ => rfl
theorem v_ge : V2 (rI0 fun i j => .bl (decide (j ≤ i))) (opI fun i j => .bl (decide (j ≤ i))) := v_I0 fun _ _ _ _ => rfl
/-- one sign in a text -/
def opInC (_ : Sto) : D → D → Option D
  | .str x, .str z => match x.cps.toList with
    | [c] => some (.bl (decide (c ∈ z.cps.toList)))
    | _ => none
  | _, _ => none
def rInC : R2 := fun x y H Q => ∃ (c : Nat) (z : Str), x = .str ⟨#[c]⟩ ∧ y = .str z ∧ Q (.bl (decide (c ∈ z.cps.toList))) H
theorem v_inC : V2 rInC opInC := fun E η B S H x y u v w rx ry => by
  unfold opInC
  split
  · rename_i x z
    obtain rfl := rx; obtain rfl := ry
    split
    · rename_i c hc
      have e : x = ⟨#[c]⟩ := by
        obtain ⟨cps⟩ := x
        congr
        exact Array.toList_inj.mp hc
      subst e
      exact fun Q k => ⟨_, _, rfl, rfl, k _ η B H w.refl rfl⟩
    · trivial
  · trivial
/-! ### built-in functions -/
@[simp] def fLen (S : Sto) : List D → Option D
  | [.str z] => if z.length ≤ 100000 then some (.int z.length) else none
  | [.tup l] => some (.int l.length)
  | [.scr l] => some (.int l.length)
  | [x] => (vL S x).map fun l => .int l.length
  | _ => none
def rLenA (K : PySem.W.Frag) : List V → Hp → VK → Prop := fun xs H Q => (∃ z, xs = [.str z] ∧ z.length ≤ sizeLine ∧ Q (.int z.length) H) ∨ ∃ p ys, xs = [.ref p] ∧ (SqL K H p ys ∨ SqT K H p ys) ∧ Q (.int ys.length) H
theorem cr_lenA {X : Cx} {K : PySem.W.Frag} (hK : X.K = K := by rfl) : CallR X (.builtin "len") (rLenA K) := by
  subst hK
  exact CallR.or call_len_str call_len_seq
theorem cr_isiK {X : Cx} {K : PySem.W.Frag} (hK : X.K = K := by rfl) : CallR X (.builtin "isinstance") (rIsi K) := by
  subst hK
  exact call_isi
theorem cr_allK {X : Cx} {K : PySem.W.Frag} (hc : X.calm = true := by rfl) (hK : X.K = K := by rfl) : CallR X (.builtin "all") (rAll K) := by
  subst hK
  exact cr_all hc
theorem cr_anyK {X : Cx} {K : PySem.W.Frag} (hc : X.calm = true := by rfl) (hK : X.K = K := by rfl) : CallR X (.builtin "any") (rAny K) := by
  subst hK
  exact cr_any hc
theorem v_len (K : PySem.W.Frag) : VN (rLenA K) fLen := fun E η B S H ds vs w r => by
  unfold fLen
  split
  · obtain ⟨v, r2, rfl, rfl, rfl⟩ := r
    split
    · rename_i h
      exact fun Q k => .inl ⟨_, rfl, size_ok h, k _ _ _ H w.refl rfl⟩
    · trivial
  · obtain ⟨v, r2, rfl, ⟨a, xs, rfl, ha, ra⟩, rfl⟩ := r
    exact fun Q k => .inr ⟨a, xs, rfl, .inr (.inl (.inl (cold_of ha).1)), k _ _ _ H w.refl (by rw [ra.length]; rfl)⟩
  · obtain ⟨v, r2, rfl, ⟨a, o, rfl, ha⟩, rfl⟩ := r
    exact fun Q k => .inr ⟨a, _, rfl, .inl (.inl (.inr ⟨o, (cold_of ha).1⟩)), k _ _ _ H w.refl (by rw [List.length_map]; rfl)⟩
  · rename_i x _ _ _
    obtain ⟨v, r2, rfl, rx, rfl⟩ := r
    cases hx : vL S x with
    | none => trivial
    | some l =>
      obtain ⟨a, xs, rfl, ha, ra⟩ := w.seeL rx hx
      exact fun Q k => .inr ⟨a, xs, rfl, .inl (.inl (.inl ha)), k _ _ _ H w.refl (by rw [ra.length]; rfl)⟩
  · trivial
@[simp] def tyN : D → Option String
  | .non => some "NoneType" | .bl _ => some "bool" | .int _ => some "int" | .str _ => some "str" | .lst _ => some "list" | .tup _ => some "tuple" | .dic _ => some "dict"
  | _ => none
def tyS (S : Sto) : D → Option String
  | .hot i => match S[i]? with
    | some (.lst _) => some "list"
    | some (.dic _) => some "dict"
    | some (.dit _) => some "dict"
    | _ => none
  | d => tyN d
@[simp] def fIsi (S : Sto) : List D → Option D
  | [x, .ty n] => (tyN x).bind fun t => (kitB t n).map .bl
  | _ => none
theorem rp_ty {K : PySem.W.Frag} {η B : List Addr} {H : Hp} {d : D} {v : V} {t : String} (r : Rp η (cold B H) d v) (h : tyN d = some t) : TyX K H v (.type t) := by
  cases d <;> (unfold tyN at h) <;> first | (cases h; done) | skip
  · cases h; obtain rfl := r; exact .base .non
  · cases h; obtain rfl := r; exact .base (.bl _)
  · cases h; obtain rfl := r; exact .base (.int _)
  · cases h; obtain rfl := r; exact .base (.str _)
  · cases h; obtain ⟨a, xs, rfl, ha, _⟩ := r; exact .base (.lst (cold_of ha).1)
  · cases h; obtain ⟨a, xs, rfl, ha, _⟩ := r; exact .base (.tup (cold_of ha).1)
  · cases h
    obtain ⟨a, o, xs, rfl, ha, _⟩ := r
    exact .fDict (cold_of ha).1
theorem v_isi (K : PySem.W.Frag) : VN (rIsi K) fIsi := fun E η B S H ds vs w r => by
  unfold fIsi
  split
  · rename_i x n
    obtain ⟨v, r2, rfl, rx, u, r3, rfl, rfl, rfl⟩ := r
    cases ht : tyN x with
    | none => trivial
    | some t =>
      show EvD η B E _ H (lift ((kitB t n).map .bl) S)
      cases hk : kitB t n with
      | none => trivial
      | some b => exact fun Q k => ⟨v, .ty n, _, _, b, rfl, .ty n, rp_ty rx ht, kit_ty hk, k _ η B H w.refl rfl⟩
  · trivial
theorem lcomp_map {vs : List Nat} {Fi : Env → Sto → Res (List D)} {gF : D → Env → Option Env} {T : Env → Sto → Res Bool} {F : Env → Sto → Res D} {ρ : Env} {S S' : Sto} (items : List D) (f : D → D) (hi : Fi ρ S = .ok items S') (hn : items.length ≤ 100000)
    (h : ∀ d ∈ items, ∃ ρ1, gF d (wipeE ρ vs) = some ρ1 ∧ T ρ1 S' = .ok true S' ∧ F ρ1 S' = .ok (f d) S') : lcomp vs Fi gF T F ρ S = .ok (.lst (items.map f)) S' := by
  unfold lcomp
  rw [hi]
  show (if items.length ≤ 100000 then _ else _) = _
  rw [if_pos hn, lcF_map h]
  rfl
theorem lcomp_filter {vs : List Nat} {Fi : Env → Sto → Res (List D)} {gF : D → Env → Option Env} {T : Env → Sto → Res Bool} {F : Env → Sto → Res D} {ρ : Env} {S S' : Sto} (items : List D) (p : D → Bool) (f : D → D) (hi : Fi ρ S = .ok items S') (hn : items.length ≤ 100000)
    (h : ∀ d ∈ items, ∃ ρ1, gF d (wipeE ρ vs) = some ρ1 ∧ T ρ1 S' = .ok (p d) S' ∧ (p d = true → F ρ1 S' = .ok (f d) S')) : lcomp vs Fi gF T F ρ S = .ok (.lst ((items.filter p).map f)) S' := by
  unfold lcomp
  rw [hi]
  show (if items.length ≤ 100000 then _ else _) = _
  rw [if_pos hn, lcF_filter h]
  rfl
def bools : List D → Option (List Bool)
  | [] => some []
  | .bl b :: r => (bools r).map (b :: ·)
  | _ => none
theorem rp_bools {η : List Addr} {H : Hp} : ∀ {ds : List D} {xs : List V} {bs : List Bool}, RpL η H ds xs → bools ds = some bs → xs = bs.map V.bl
  | [], xs, bs, r, h => by cases h; exact r
  | d :: ds, xs, bs, ⟨v, vs, ex, rv, rl⟩, h => by
    subst ex
    cases d <;> (unfold bools at h) <;> first | (cases h; done) | skip
    rename_i b
    cases hb : bools ds with
    | none => rw [hb] at h; cases h
    | some cs =>
      rw [hb] at h
      cases h
      rw [rp_bools rl hb, show v = V.bl b from rv]
      rfl
theorem bools_map {α : Type} (f : α → Bool) : ∀ l : List α, bools (l.map fun x => D.bl (f x)) = some (l.map f)
  | [] => rfl
  | x :: l => by
    show (bools (l.map fun x => D.bl (f x))).map (f x :: ·) = _
    rw [bools_map f l]
    rfl
@[simp] def fAll (_ : Sto) : List D → Option D
  | [.lst l] => (bools l).map fun bs => .bl (bs.all id)
  | _ => none
@[simp] def fAny (_ : Sto) : List D → Option D
  | [.lst l] => (bools l).map fun bs => .bl (bs.any id)
  | _ => none
theorem v_all (K : PySem.W.Frag) : VN (rAll K) fAll := fun E η B S H ds vs w r => by
  unfold fAll
  split
  · rename_i l
    obtain ⟨v, r2, rfl, ⟨a, xs, rfl, ha, ra⟩, rfl⟩ := r
    cases hb : bools l with
    | none => trivial
    | some bs => exact fun Q k => ⟨a, bs, rfl, .inl (.inl (by rw [← rp_bools ra hb]; exact (cold_of ha).1)), k _ η B H w.refl rfl⟩
  · trivial
theorem v_any (K : PySem.W.Frag) : VN (rAny K) fAny := fun E η B S H ds vs w r => by
  unfold fAny
  split
  · rename_i l
    obtain ⟨v, r2, rfl, ⟨a, xs, rfl, ha, ra⟩, rfl⟩ := r
    cases hb : bools l with
    | none => trivial
    | some bs => exact fun Q k => ⟨a, bs, rfl, .inl (.inl (by rw [← rp_bools ra hb]; exact (cold_of ha).1)), k _ η B H w.refl rfl⟩
  · trivial
end DL
set_option Elab.async false
set_option linter.all false
set_option maxRecDepth 100000
set_option maxHeartbeats 4000000
set_option autoImplicit false
namespace DL
open PySem PySem.Spec PyProof.Rows L2
/-! ### data as the library's data -/
mutual
def toPy : D → Option PyData
  | .non => some .none
  | .bl b => some (.bool b)
  | .int i => some (.int i)
  | .str s => some (.str s)
  | .lst l => (toPys l).map .list
  | .tup l => (toPys l).map .tuple
  | _ => none
def toPys : List D → Option (List PyData)
  | [] => some []
  | d :: ds => (toPy d).bind fun p => (toPys ds).map (p :: ·)
end
mutual
theorem rp_dp {K : PySem.W.Frag} {η : List Addr} {Hc H : Hp} (sm : Same Hc H) : ∀ (d : D) {v : V} {p : PyData}, Rp η Hc d v → toPy d = some p → Dp K H v p
  | .non, v, p, r, h => by cases h; obtain rfl := r; exact .non
  | .bl b, v, p, r, h => by cases h; obtain rfl := r; exact .bl b
  | .int i, v, p, r, h => by cases h; obtain rfl := r; exact .int i
  | .str s, v, p, r, h => by cases h; obtain rfl := r; exact .str s
  | .lst l, v, p, ⟨a, xs, e, ha, rl⟩, h => by
    subst e
    have h' : (toPys l).map PyData.list = some p := h
    cases e : toPys l with
    | none => rw [e] at h'; cases h'
    | some ps => rw [e] at h'; cases h'; exact .lst (.inl (.inl (sm _ _ ha))) (rps_dps sm l rl e)
  | .tup l, v, p, ⟨a, xs, e, ha, rl⟩, h => by
    subst e
    have h' : (toPys l).map PyData.tuple = some p := h
    cases e : toPys l with
    | none => rw [e] at h'; cases h'
    | some ps => rw [e] at h'; cases h'; exact .tup (.inl (.inl (sm _ _ ha))) (rps_dps sm l rl e)
  | .dic _, v, p, r, h => by cases h
  | .dit _, v, p, r, h => by cases h
  | .scr _, v, p, r, h => by cases h
  | .obj _ _, v, p, r, h => by cases h
  | .hot _, v, p, r, h => by cases h
  | .cls _, v, p, r, h => by cases h
  | .ty _, v, p, r, h => by cases h
  | .exn _ _ _, v, p, r, h => by cases h
theorem rps_dps {K : PySem.W.Frag} {η : List Addr} {Hc H : Hp} (sm : Same Hc H) : ∀ (l : List D) {xs : List V} {ps : List PyData}, RpL η Hc l xs → toPys l = some ps → DpAll K H xs ps
  | [], xs, ps, r, h => by cases h; rw [show xs = [] from r]; exact .nil
  | d :: ds, xs, ps, ⟨v, vs, e, rv, rl⟩, h => by
    subst e
    have h' : ((toPy d).bind fun p => (toPys ds).map (p :: ·)) = some ps := h
    cases e1 : toPy d with
    | none => rw [e1] at h'; cases h'
    | some p =>
      cases e2 : toPys ds with
      | none => rw [e1, e2] at h'; cases h'
      | some qs =>
        rw [e1, e2] at h'
        cases h'
        exact .cons (rp_dp sm d rv e1) (rps_dps sm ds rl e2)
end
/-- a hot list as a cold one -/
def cl (S : Sto) (d : D) : D := match vL S d with
  | some l => .lst l
  | none => d
@[simp] theorem cl_lst (S : Sto) (l : List D) : cl S (.lst l) = .lst l := rfl
@[simp] theorem cl_tup (S : Sto) (l : List D) : cl S (.tup l) = .tup l := rfl
@[simp] theorem cl_str (S : Sto) (l : Str) : cl S (.str l) = .str l := rfl
@[simp] theorem cl_int (S : Sto) (l : Int) : cl S (.int l) = .int l := rfl
@[simp] theorem cl_bl (S : Sto) (l : Bool) : cl S (.bl l) = .bl l := rfl
@[simp] theorem cl_non (S : Sto) : cl S .non = .non := rfl
@[simp] theorem cl_dic (S : Sto) (l : List (Key × D)) : cl S (.dic l) = .dic l := rfl
@[simp] theorem cl_obj (S : Sto) (C : Addr) (l : List (Str × D)) : cl S (.obj C l) = .obj C l := rfl
theorem rp_dpS {K : PySem.W.Frag} {η B : List Addr} {S : Sto} {H : Hp} (w : Wd η B S H) {d : D} {v : V} {p : PyData} (r : Rp η (cold B H) d v) (h : toPy (cl S d) = some p) : Dp K H v p := by
  unfold cl at h
  split at h
  · rename_i l hl
    obtain ⟨a, xs, rfl, ha, rl⟩ := w.seeL r hl
    have h' : (toPys l).map PyData.list = some p := h
    cases e : toPys l with
    | none => rw [e] at h'; cases h'
    | some ps => rw [e] at h'; cases h'; exact .lst (.inl (.inl ha)) (rps_dps cold_le l rl e)
  · exact rp_dp cold_le d r h
/-! ### == and != -/
def scD : D → Option V
  | .non => some .non
  | .bl b => some (.bl b)
  | .int i => some (.int i)
  | .str s => some (.str s)
  | _ => none
theorem sc_rp {η : List Addr} {H : Hp} {d : D} {u v : V} (h : scD d = some u) (r : Rp η H d v) : v = u := by
  cases d <;> first | (cases h; done) | (cases h; exact r)
theorem sc_cl {S : Sto} {η : List Addr} {H : Hp} {d : D} {u v : V} (h : scD (cl S d) = some u) (r : Rp η H d v) : v = u := by
  unfold cl at h
  split at h
  · cases h
  · exact sc_rp h r
def eqD (x y : D) : Option Bool := match scD x, scD y with
  | some u, some v => if scal u v = true then some (decide (u = v)) else (toPy x).bind fun p => (toPy y).bind fun q => if SeqAt.shaped p = true ∧ SeqAt.shaped q = true then some (PyData.eqv p q) else none
  | _, _ => (toPy x).bind fun p => (toPy y).bind fun q => if SeqAt.shaped p = true ∧ SeqAt.shaped q = true then some (PyData.eqv p q) else none
def opEq (S : Sto) (x y : D) : Option D := (eqD (cl S x) (cl S y)).map .bl
def opNe (S : Sto) (x y : D) : Option D := (eqD (cl S x) (cl S y)).map fun b => .bl (!b)
def rEqA (K : PySem.W.Frag) : R2 := fun x y H Q => rEq x y H Q ∨ rEqD K x y H Q
def rNeA (K : PySem.W.Frag) : R2 := fun x y H Q => rNe x y H Q ∨ rNeD K x y H Q
theorem or_eq {X : Cx} {K : PySem.W.Frag} (hu : X.A.units + 64 < cLine) (hK : X.K = K := by rfl) : OpR X (compareOp .Eq) (rEqA K) := by
  subst hK
  exact OpR.or op_eq (op_eqD hu)
theorem or_ne {X : Cx} {K : PySem.W.Frag} (hu : X.A.units + 64 < cLine) (hK : X.K = K := by rfl) : OpR X (compareOp .NotEq) (rNeA K) := by
  subst hK
  exact OpR.or op_ne (op_neD hu)
theorem eqD_two {x y : D} {b : Bool} (h : eqD x y = some b) : (∃ u v, scD x = some u ∧ scD y = some v ∧ scal u v = true ∧ b = decide (u = v)) ∨
    ∃ p q, toPy x = some p ∧ toPy y = some q ∧ SeqAt.shaped p = true ∧ SeqAt.shaped q = true ∧ b = PyData.eqv p q := by
  have deep : ∀ {b}, ((toPy x).bind fun p => (toPy y).bind fun q => if SeqAt.shaped p = true ∧ SeqAt.shaped q = true then some (PyData.eqv p q) else none) = some b →
      ∃ p q, toPy x = some p ∧ toPy y = some q ∧ SeqAt.shaped p = true ∧ SeqAt.shaped q = true ∧ b = PyData.eqv p q := by
    intro b h
    cases e1 : toPy x with
    | none => rw [e1] at h; cases h
    | some p =>
      cases e2 : toPy y with
      | none => rw [e1, e2] at h; cases h
      | some q =>
        rw [e1, e2] at h
        have h' : (if SeqAt.shaped p = true ∧ SeqAt.shaped q = true then some (PyData.eqv p q) else none) = some b := h
        split at h'
        · rename_i c; cases h'; exact ⟨p, q, rfl, rfl, c.1, c.2, rfl⟩
        · cases h'
  unfold eqD at h
  split at h
  · rename_i u v h1 h2
    split at h
    · rename_i c; cases h; exact .inl ⟨u, v, h1, h2, c, rfl⟩
    · exact .inr (deep h)
  · exact .inr (deep h)
theorem v_eq (K : PySem.W.Frag) : V2 (rEqA K) opEq := fun E η B S H x y u v w rx ry => by
  unfold opEq
  cases h : eqD (cl S x) (cl S y) with
  | none => trivial
  | some b =>
    intro Q k
    rcases eqD_two h with ⟨u', v', h1, h2, c, e⟩ | ⟨p, q, h1, h2, c1, c2, e⟩
    · obtain rfl := sc_cl h1 rx
      obtain rfl := sc_cl h2 ry
      exact .inl ⟨c, k _ η B H w.refl (by rw [e]; rfl)⟩
    · exact .inr ⟨p, q, rp_dpS w rx h1, rp_dpS w ry h2, c1, c2, k _ η B H w.refl (by rw [e]; rfl)⟩
theorem v_ne (K : PySem.W.Frag) : V2 (rNeA K) opNe := fun E η B S H x y u v w rx ry => by
  unfold opNe
  cases h : eqD (cl S x) (cl S y) with
  | none => trivial
  | some b =>
    intro Q k
    rcases eqD_two h with ⟨u', v', h1, h2, c, e⟩ | ⟨p, q, h1, h2, c1, c2, e⟩
    · obtain rfl := sc_cl h1 rx
      obtain rfl := sc_cl h2 ry
      exact .inl ⟨c, k _ η B H w.refl (by rw [e]; rfl)⟩
    · exact .inr ⟨p, q, rp_dpS w rx h1, rp_dpS w ry h2, c1, c2, k _ η B H w.refl (by rw [e]; rfl)⟩
@[simp] theorem eqD_str (a b : Str) : eqD (.str a) (.str b) = some (decide (a = b)) := by simp [eqD, scD, scal]
@[simp] theorem eqD_int (a b : Int) : eqD (.int a) (.int b) = some (decide (a = b)) := by simp [eqD, scD, scal]
/-! ### in, not in a list or a tuple (data of any depth) -/
@[simp] def isNoneD : D → Bool
  | .non => true
  | _ => false
@[simp] def opIsN (_ : Sto) : D → D → Option D
  | x, .non => some (.bl (isNoneD x))
  | _, _ => none
@[simp] def opNotN (_ : Sto) : D → D → Option D
  | x, .non => some (.bl (!isNoneD x))
  | _, _ => none
theorem isN_rp {η : List Addr} {H : Hp} {d : D} {v : V} (r : Rp η H d v) : decide (v = V.non) = isNoneD d := by
  cases d <;> first | (obtain rfl := r; rfl) | (obtain ⟨a, xs, rfl, _⟩ := r; rfl) | (obtain ⟨a, rfl, _⟩ := r; rfl) | (obtain ⟨a, dx, xs, rfl, _⟩ := r; rfl)
theorem v_isN : V2 (fun x y H Q => y = .non ∧ Q (.bl (decide (x = .non))) H) opIsN := fun E η B S H x y u v w rx ry => by
  unfold opIsN
  split
  · obtain rfl := ry
    exact fun Q k => ⟨rfl, k _ η B H w.refl (by rw [isN_rp rx]; rfl)⟩
  · trivial
theorem v_notN : V2 (fun x y H Q => y = .non ∧ Q (.bl (!decide (x = .non))) H) opNotN := fun E η B S H x y u v w rx ry => by
  unfold opNotN
  split
  · obtain rfl := ry
    exact fun Q k => ⟨rfl, k _ η B H w.refl (by rw [isN_rp rx]; rfl)⟩
  · trivial
/-! ### numbers -/
def opMul (_ : Sto) : D → D → Option D
  | .int i, .int j => if (-(2 ^ 64) < i ∧ i < 2 ^ 64) ∨ (-(2 ^ 64) < j ∧ j < 2 ^ 64) then some (.int (i * j)) else none
  | _, _ => none
def opMod (_ : Sto) : D → D → Option D
  | .int i, .int j => if 0 < j then some (.int (i % j)) else none
  | _, _ => none
def opFdiv (_ : Sto) : D → D → Option D
  | .int i, .int j => if 0 < j ∧ j < 1073741824 then some (.int (i / j)) else none
  | _, _ => none
theorem v_I {C : Int → Int → Prop} {g : Int → Int → V} {f : Sto → D → D → Option D} (h : ∀ S x y z, f S x y = some z → ∃ i j, x = .int i ∧ y = .int j ∧ C i j ∧ ∀ η H, Rp η H z (g i j)) : V2 (rI C g) f := fun E η B S H x y u v w rx ry => by
  cases e : f S x y with
  | none => trivial
  | some z =>
    obtain ⟨i, j, rfl, rfl, c, r⟩ := h S x y z e
    obtain rfl := rx
    obtain rfl := ry
    exact fun Q k => ⟨i, j, rfl, rfl, c, k _ η B H w.refl (r _ _)⟩
theorem v_mul : V2 (rI CMul fun i j => .int (i * j)) opMul := v_I fun S x y z h => by
  unfold opMul at h
  split at h
  · split at h
    · rename_i c; cases h; exact ⟨_, _, rfl, rfl, c, fun _ _ => rfl⟩
    · cases h
  · cases h
theorem v_mod : V2 (rI (fun _ j => 0 < j) fun i j => .int (i % j)) opMod := v_I fun S x y z h => by
  unfold opMod at h
  split at h
  · split at h
    · rename_i c; cases h; exact ⟨_, _, rfl, rfl, c, fun _ _ => rfl⟩
    · cases h
  · cases h
theorem v_fdiv : V2 (rI CDiv fun i j => .int (i / j)) opFdiv := v_I fun S x y z h => by
  unfold opFdiv at h
  split at h
  · split at h
    · rename_i c; cases h; exact ⟨_, _, rfl, rfl, c, fun _ _ => rfl⟩
    · cases h
  · cases h
section
variable {X : Cx} {E : EK} {e a b : Expr} {es : List Expr} {pos p apos cpos : Pos} {te ta tb : TE} {tas : TA} {Fa Fb F : Env → Sto → Res D} {Fs : Env → Sto → Res (List D)}
@[simp] def fNeg (F : Env → Sto → Res D) : Env → Sto → Res D := fun ρ S => (F ρ S).bind fun d S1 => match d with
  | .int i => .ok (.int (-i)) S1
  | _ => .bad
theorem de_neg (h : DE X E a ta Fa) : DE X E (.UnaryOp .USub a pos) (tUn (rU fun i => .int (-i)) ta) (fNeg Fa) :=
  ⟨pe_un un_neg h.1, fun η B S σ ρ H w s => Ev.bind (T := ta σ H) (T' := fun x H1 Q => ∃ i, x = V.int i ∧ Q (V.int (-i)) H1) (h.2 η B S σ ρ H w s) fun d S1 v η1 B1 H1 n1 r1 => by
    cases d <;> first | trivial | (obtain rfl := r1; exact fun Q k => ⟨_, rfl, k _ η1 B1 H1 n1.wd.refl rfl⟩)⟩
/-! ### subscripts -/
def opIx (S : Sto) (x y : D) : Option D := match x, y with
  | .tup l, .int i => atI l i
  | .str z, .int i => if z.length ≤ 100000 then (atI z.cps.toList i).map fun c => .str ⟨#[c]⟩ else none
  | .scr l, .int i => (atI l i).map .int
  | x, .int i => (vL S x).bind fun l => atI l i
  | _, _ => none
theorem atI_rp {η : List Addr} {H : Hp} {ds : List D} {xs : List V} {i : Int} {d : D} (r : RpL η H ds xs) (h : atI ds i = some d) : ∃ v, atI xs i = some v ∧ Rp η H d v := by
  unfold atI at h ⊢
  rw [r.length]
  cases e : ixN ds.length i with
  | none => rw [e] at h; cases h
  | some j =>
    rw [e] at h
    exact r.got h
def rIxA (K : PySem.W.Frag) : R2 := fun x y H Q => rIxL K x y H Q ∨ rIxT K x y H Q ∨ rIxS x y H Q
theorem ix_any : IxR X (rIxA X.K) := by
  intro value slice pins s σ H x y v u Q I rx ry h hs
  rcases h with h | h | h
  · exact ix_list value slice pins s σ H x y v u Q I rx ry h hs
  · exact ix_tup value slice pins s σ H x y v u Q I rx ry h hs
  · exact ix_str value slice pins s σ H x y v u Q I rx ry h hs
theorem v_ix (K : PySem.W.Frag) : V2 (rIxA K) opIx := fun E η B S H x y u v w rx ry => by
  unfold opIx
  split
  · rename_i l i
    obtain ⟨q, xs, rfl, hq, rl⟩ := rx
    obtain rfl := ry
    cases e : atI l i with
    | none => trivial
    | some d =>
      obtain ⟨z, e1, rz⟩ := atI_rp rl e
      exact fun Q k => .inr (.inl ⟨q, xs, i, z, rfl, rfl, .inl (.inl (cold_of hq).1), e1, k _ _ _ H w.refl rz⟩)
  · rename_i z i
    obtain rfl := rx
    obtain rfl := ry
    split
    · rename_i hz
      cases e : atI z.cps.toList i with
      | none => trivial
      | some c => exact fun Q k => .inr (.inr ⟨z, i, c, rfl, rfl, size_ok hz, e, k _ _ _ H w.refl rfl⟩)
    · trivial
  · rename_i l i
    obtain ⟨a, o, rfl, ha⟩ := rx
    obtain rfl := ry
    cases e : atI l i with
    | none => trivial
    | some c =>
      refine fun Q k => .inl ⟨a, _, i, .int c, rfl, rfl, .inl (.inr ⟨o, (cold_of ha).1⟩), ?_, k _ _ _ H w.refl rfl⟩
      unfold atI at e ⊢
      rw [List.length_map]
      cases e2 : ixN l.length i with
      | none => rw [e2] at e; cases e
      | some j =>
        rw [e2] at e
        have e' : l[j]? = some c := e
        show (l.map V.int)[j]? = _
        rw [List.getElem?_map, e']
        rfl
  · rename_i i _ _ _
    obtain rfl := ry
    cases hx : vL S x with
    | none => trivial
    | some l =>
      obtain ⟨q, xs, rfl, hq, rl⟩ := w.seeL rx hx
      show EvD η B E _ H (lift (atI l i) S)
      cases e : atI l i with
      | none => trivial
      | some d =>
        obtain ⟨z, e1, rz⟩ := atI_rp rl e
        exact fun Q k => .inl ⟨q, xs, i, z, rfl, rfl, .inl (.inl hq), e1, k _ _ _ H w.refl rz⟩
  · trivial
theorem de_ix {K : PySem.W.Frag} (ha : DE X E a ta Fa) (hb : DE X E b tb Fb) (hs : PlainIx b := by exact fun _ _ => rfl) (hK : X.K = K := by rfl) : DE X E (.Subscript a b pos) (tOp (rIxA K) ta tb) (bin opIx Fa Fb) := by
  subst hK
  exact ⟨pe_ix ix_any ha.1 hb.1 hs, fun η B S σ ρ H w s => ev_two (v_ix X.K) w s ha.2 hb.2⟩
/-! ### slices -/
def SoO (E : EK) (t : TO) (F : Env → Sto → Res (Option Int)) : Prop := ∀ η B S σ ρ H, Wd η B S H → Sl η (cold B H) σ ρ → Ev (fun _ _ (o o' : Option Int) => o = o') η B (E σ) (t σ H) H (F ρ S)
def DO (X : Cx) (E : EK) (o : Option Expr) (t : TO) (F : Env → Sto → Res (Option Int)) : Prop := PO X o t ∧ SoO E t F
@[simp] def fNoPart : Env → Sto → Res (Option Int) := fun _ S => .ok none S
theorem do_none : DO X E none tNoPart fNoPart := ⟨po_none, fun η B S σ ρ H w s Q k => k none η B H w.refl rfl⟩
@[simp] def fPart (F : Env → Sto → Res D) : Env → Sto → Res (Option Int) := fun ρ S => (F ρ S).bind fun d S1 => match d with
  | .int i => .ok (some i) S1
  | _ => .bad
theorem do_some (h : DE X E a ta Fa) : DO X E (some a) (tPart ta) (fPart Fa) :=
  ⟨po_some h.1, fun η B S σ ρ H w s => Ev.bind (T := ta σ H) (T' := fun x H1 Q => ∃ i, x = V.int i ∧ Q (some i) H1) (h.2 η B S σ ρ H w s) fun d S1 v η1 B1 H1 n1 r1 => by
    cases d <;> first | trivial | (obtain rfl := r1; exact fun Q k => ⟨_, rfl, k _ η1 B1 H1 n1.wd.refl rfl⟩)⟩
def cutL {α : Type} (xs : List α) (lo hi : Option Int) : List α := (xs.drop (HT.sIx xs.length 0 lo)).take (HT.sIx xs.length xs.length hi - HT.sIx xs.length 0 lo)
theorem cutL_rp {η : List Addr} {H : Hp} {ds : List D} {xs : List V} {lo hi : Option Int} (r : RpL η H ds xs) : RpL η H (cutL ds lo hi) (cutV xs lo hi) := by
  unfold cutL cutV
  rw [r.length]
  exact (r.drop _).take _
def opCut (S : Sto) (x : D) (lo hi : Option Int) : Option D := match x with
  | .tup l => some (.tup (cutL l lo hi))
  | .str z => if z.length ≤ 100000 then some (.str (cutS z lo hi)) else none
  | x => (vL S x).map fun l => .lst (cutL l lo hi)
def rSlX (K : PySem.W.Frag) : V → Option Int → Option Int → Hp → VK → Prop := fun x lo hi H Q => rSlL K x lo hi H Q ∨ rSlA K x lo hi H Q ∨ rSlS x lo hi H Q
theorem sl_any : SlR X (rSlX X.K) := SlR.or sl_list (SlR.or sl_tupA sl_str)
theorem cutL_all {α : Type} {xs : List α} {lo hi : Option Int} (h1 : HT.sIx xs.length 0 lo = 0) (h2 : HT.sIx xs.length xs.length hi = xs.length) : cutL xs lo hi = xs := by
  unfold cutL
  rw [h1, h2]
  simp
theorem ev_cut {E : XK} (K : PySem.W.Frag) {η B : List Addr} {S : Sto} {H : Hp} {x : D} {v : V} {lo hi : Option Int} (w : Wd η B S H) (r : Rp η (cold B H) x v) : EvD η B E (fun Q => rSlX K v lo hi H Q) H (lift (opCut S x lo hi) S) := by
  unfold opCut
  split
  · obtain ⟨q, xs, rfl, hq, rl⟩ := r
    refine fun Q k => .inr (.inl ⟨q, xs, rfl, .inl (.inl (cold_of hq).1), fun ⟨h1, h2⟩ => ?_, fun _ p hp => k _ _ _ _ (w.new hp) ⟨p, _, rfl, w.cold_new hp, (w.new hp).rpL (cutL_rp rl)⟩⟩)
    rw [rl.length] at h1 h2
    rw [cutL_all h1 h2] at k
    exact k _ _ _ H w.refl ⟨q, xs, rfl, hq, rl⟩
  · rename_i z
    obtain rfl := r
    split
    · rename_i hz
      exact fun Q k => .inr (.inr ⟨z, rfl, size_ok hz, k _ _ _ H w.refl rfl⟩)
    · trivial
  · cases hx : vL S x with
    | none => trivial
    | some l =>
      obtain ⟨q, xs, rfl, hq, rl⟩ := w.seeL r hx
      exact fun Q k => .inl ⟨q, xs, rfl, .inl (.inl hq), fun p hp => k _ _ _ _ (w.new hp) ⟨p, _, rfl, w.cold_new hp, (w.new hp).rpL (cutL_rp rl)⟩⟩
@[simp] def fCut (F : Env → Sto → Res D) (L U : Env → Sto → Res (Option Int)) : Env → Sto → Res D := fun ρ S => (F ρ S).bind fun d S1 => (L ρ S1).bind fun lo S2 => (U ρ S2).bind fun hi S3 => lift (opCut S3 d lo hi) S3
theorem de_slice {K : PySem.W.Frag} {lo hi : Option Expr} {tl th : TO} {L U : Env → Sto → Res (Option Int)} {p2 : Pos} (ha : DE X E a ta Fa) (hl : DO X E lo tl L) (hh : DO X E hi th U) (hK : X.K = K := by rfl) : DE X E (.Subscript a (.Slice lo hi none p2) pos) (tSl (rSlX K) ta tl th) (fCut Fa L U) := by
  subst hK
  refine ⟨pe_slice sl_any ha.1 hl.1 hh.1, fun η B S σ ρ H w s => ?_⟩
  refine Ev.bind (T := ta σ H) (T' := fun x H1 Q => tl σ H1 fun l H2 => th σ H2 fun u H3 => rSlX X.K x l u H3 Q) (ha.2 η B S σ ρ H w s) fun d S1 v η1 B1 H1 n1 r1 => ?_
  refine Ev.bind (T := tl σ H1) (T' := fun l H2 Q => th σ H2 fun u H3 => rSlX X.K v l u H3 Q) (hl.2 η1 B1 S1 σ ρ H1 n1.wd (n1.sl s)) fun l S2 l' η2 B2 H2 n2 r2 => ?_
  subst r2
  refine Ev.bind (T := th σ H2) (T' := fun u H3 Q => rSlX X.K v l u H3 Q) (hh.2 η2 B2 S2 σ ρ H2 n2.wd (n2.sl (n1.sl s))) fun u S3 u' η3 B3 H3 n3 r3 => ?_
  subst r3
  exact ev_cut X.K n3.wd (n3.rp (n2.rp r1))
/-! ### texts -/
/-- a method of a text, one argument -/
@[simp] def mS1 (f : Sto → Str → D → Option D) (Fa Fb : Env → Sto → Res D) : Env → Sto → Res D := fun ρ S => (Fa ρ S).bind fun x S1 => match x with
  | .str z => (Fb ρ S1).bind fun y S2 => lift (f S2 z y) S2
  | _ => .bad
theorem so_m1 {r : V → List V → Hp → VK → Prop} {f : Sto → Str → D → Option D} (hr : ∀ (E : XK) (η B : List Addr) (S : Sto) (H : Hp) (z : Str) (y : D) (v : V), Wd η B S H → Rp η (cold B H) y v → EvD η B E (r (.str z) [v] H) H (lift (f S z y) S))
    (ha : SoE E ta Fa) (hb : SoE E tb Fb) : SoE E (tM1 r ta tb) (mS1 f Fa Fb) := fun η B S σ ρ H w s => by
  refine Ev.bind (T := ta σ H) (T' := fun x H1 Q => (∃ a, x = V.str a) ∧ tb σ H1 fun y H2 => r x [y] H2 Q) (ha η B S σ ρ H w s) fun x S1 u η1 B1 H1 n1 r1 => ?_
  cases x <;> first | trivial | skip
  rename_i z
  obtain rfl := r1
  have q := Ev.bind (R := fun η Hc d v => Rp η Hc d v) (R' := fun η Hc d v => Rp η Hc d v) (T := tb σ H1) (T' := fun y H2 Q => r (V.str z) [y] H2 Q) (k := fun y S2 => lift (f S2 z y) S2) (hb η1 B1 S1 σ ρ H1 n1.wd (n1.sl s)) fun y S2 v η2 B2 H2 n2 r2 => hr (E σ) η2 B2 S2 H2 z y v n2.wd r2
  show EvD η1 B1 (E σ) _ H1 ((Fb ρ S1).bind fun y S2 => lift (f S2 z y) S2)
  revert q
  generalize ((Fb ρ S1).bind fun y S2 => lift (f S2 z y) S2) = rr
  intro q
  cases rr with
  | bad => trivial
  | ok d S' => exact fun Q k => ⟨⟨z, rfl⟩, q Q k⟩
  | exc C fs S' => exact fun Q k => ⟨⟨z, rfl⟩, q Q k⟩
def opSplit (_ : Sto) (a : Str) : D → Option D
  | .str b => if b.length ≠ 0 ∧ a.length ≤ 100000 then some (.lst ((Txt.split a b).map .str)) else none
  | _ => none
theorem de_split (ha : DE X E a ta Fa) (hb : DE X E b tb Fb) (hs : starEach [b] X.env = [(false, eval b X.env)] := by rfl) (hbase : attributeBase a "split" X.env (eval a X.env) = eval a X.env := by rfl) (hline : (apos.endLine == pos.line) = true := by rfl) :
    DE X E (.Call (.Attribute a "split" apos) [b] [] pos) (tM1 (fun x xs H Q => ∃ a b, x = V.str a ∧ xs = [V.str b] ∧ (b.length == 0) = false ∧ a.length + 2 ≤ sizeLine ∧ rNewStrs (Txt.split a b) H Q) ta tb) (mS1 opSplit Fa Fb) := by
  refine ⟨pe_split ha.1 hb.1 hs hbase hline, so_m1 (fun E η B S H z y v w r => ?_) ha.2 hb.2⟩
  unfold opSplit
  split
  · rename_i b'
    obtain rfl := r
    split
    · rename_i c
      exact fun Q k => ⟨_, b', rfl, rfl, by simpa using c.1, Nat.le_trans (Nat.add_le_add_right c.2 2) (by decide), fun p hp => k _ _ _ _ (w.new hp) ⟨p, _, rfl, w.cold_new hp, RpL.of_strs _⟩⟩
    · trivial
  · trivial
def strsOf : List D → Option (List Str)
  | [] => some []
  | .str s :: r => (strsOf r).map (s :: ·)
  | _ => none
@[simp] theorem strsOf_map : ∀ l : List Str, strsOf (l.map D.str) = some l
  | [] => rfl
  | x :: l => by
    show (strsOf (l.map D.str)).map (x :: ·) = _
    rw [strsOf_map l]
    rfl
theorem rp_strs {η : List Addr} {H : Hp} : ∀ {ds : List D} {xs : List V} {ss : List Str}, RpL η H ds xs → strsOf ds = some ss → xs = ss.map V.str
  | [], xs, bs, r, h => by cases h; exact r
  | d :: ds, xs, bs, ⟨v, vs, ex, rv, rl⟩, h => by
    subst ex
    cases d <;> (unfold strsOf at h) <;> first | (cases h; done) | skip
    rename_i b
    cases hb : strsOf ds with
    | none => rw [hb] at h; cases h
    | some cs =>
      rw [hb] at h
      cases h
      rw [rp_strs rl hb, show v = V.str b from rv]
      rfl
def joinOk (a : Str) (ss : List Str) : Bool := decide ((ss.map (·.length)).sum + ss.length * a.length ≤ 1000000)
def opJoin (S : Sto) (a : Str) (d : D) : Option D := match d with
  | .tup l => (strsOf l).bind fun ss => if joinOk a ss = true then some (.str (Txt.join a ss)) else none
  | d => (vL S d).bind fun l => (strsOf l).bind fun ss => if joinOk a ss = true then some (.str (Txt.join a ss)) else none
theorem de_join {K : PySem.W.Frag} (ha : DE X E a ta Fa) (hb : DE X E b tb Fb) (hs : starEach [b] X.env = [(false, eval b X.env)] := by rfl) (hbase : attributeBase a "join" X.env (eval a X.env) = eval a X.env := by rfl) (hline : (apos.endLine == pos.line) = true := by rfl) (hK : X.K = K := by rfl) :
    DE X E (.Call (.Attribute a "join" apos) [b] [] pos) (tM1 (fun x xs H Q => ∃ a p, ∃ ys : List Str, x = V.str a ∧ xs = [V.ref p] ∧ (SqL K H p (ys.map V.str) ∨ SqT K H p (ys.map V.str)) ∧ (ys.map (·.length)).sum + ys.length * a.length ≤ 16777216 ∧ Q (V.str (Txt.join a ys)) H) ta tb) (mS1 opJoin Fa Fb) := by
  subst hK
  refine ⟨pe_join ha.1 hb.1 hs hbase hline, so_m1 (fun E η B S H z y v w r => ?_) ha.2 hb.2⟩
  unfold opJoin
  split
  · rename_i l
    obtain ⟨q, xs, rfl, hq, rl⟩ := r
    cases e : strsOf l with
    | none => trivial
    | some ss =>
      show EvD η B E _ H (lift (if joinOk z ss = true then some (D.str (Txt.join z ss)) else none) S)
      split
      · rename_i c
        have c' := of_decide_eq_true c
        exact fun Q k => ⟨z, q, ss, rfl, rfl, .inr (.inl (.inl (by rw [← rp_strs rl e]; exact (cold_of hq).1))), by omega, k _ _ _ H w.refl rfl⟩
      · trivial
  · cases hx : vL S y with
    | none => trivial
    | some l =>
      obtain ⟨q, xs, rfl, hq, rl⟩ := w.seeL r hx
      cases e : strsOf l with
      | none => simp only [Option.bind_some, e]; trivial
      | some ss =>
        simp only [Option.bind_some, e]
        split
        · rename_i c
          have c' := of_decide_eq_true c
          exact fun Q k => ⟨z, q, ss, rfl, rfl, .inl (.inl (.inl (by rw [← rp_strs rl e]; exact hq))), by omega, k _ _ _ H w.refl rfl⟩
        · trivial
end
/-! ### tuple(..), list(..), abs, int, min, max, sorted of texts -/
theorem cr_tupleK {X : Cx} {K : PySem.W.Frag} (hK : X.K = K := by rfl) : CallR X (.type "tuple") (fun xs H Q => ∃ p ys, xs = [V.ref p] ∧ ((SqL K H p ys ∧ ∀ l, H l = none → Q (V.ref l) (upd H l (.tup ys))) ∨ (SqT K H p ys ∧ Q (V.ref p) H))) := by
  subst hK
  exact call_tuple_of
theorem cr_listK {X : Cx} {K : PySem.W.Frag} (hK : X.K = K := by rfl) : CallR X (.type "list") (fun xs H Q => ∃ p ys, xs = [V.ref p] ∧ (SqL K H p ys ∨ SqT K H p ys) ∧ ∀ l, H l = none → Q (V.ref l) (upd H l (.lst ys))) := by
  subst hK
  exact call_list_of
def fTuple (S : Sto) : List D → Option D
  | [.tup l] => some (.tup l)
  | [x] => (vL S x).map .tup
  | _ => none
def fList (S : Sto) : List D → Option D
  | [.tup l] => some (.lst l)
  | [x] => (vL S x).map .lst
  | _ => none
theorem v_tuple (K : PySem.W.Frag) : VN (fun xs H Q => ∃ p ys, xs = [V.ref p] ∧ ((SqL K H p ys ∧ ∀ l, H l = none → Q (V.ref l) (upd H l (.tup ys))) ∨ (SqT K H p ys ∧ Q (V.ref p) H))) fTuple := fun E η B S H ds vs w r => by
  unfold fTuple
  split
  · obtain ⟨v, r2, rfl, ⟨a, xs, rfl, ha, ra⟩, rfl⟩ := r
    exact fun Q k => ⟨a, xs, rfl, .inr ⟨.inl (.inl (cold_of ha).1), k _ _ _ H w.refl ⟨a, xs, rfl, ha, ra⟩⟩⟩
  · rename_i x _
    obtain ⟨v, r2, rfl, rx, rfl⟩ := r
    cases hx : vL S x with
    | none => trivial
    | some l =>
      obtain ⟨a, xs, rfl, ha, ra⟩ := w.seeL rx hx
      exact fun Q k => ⟨a, xs, rfl, .inl ⟨.inl (.inl ha), fun p hp => k _ _ _ _ (w.new hp) ⟨p, _, rfl, w.cold_new hp, (w.new hp).rpL ra⟩⟩⟩
  · trivial
theorem v_list (K : PySem.W.Frag) : VN (fun xs H Q => ∃ p ys, xs = [V.ref p] ∧ (SqL K H p ys ∨ SqT K H p ys) ∧ ∀ l, H l = none → Q (V.ref l) (upd H l (.lst ys))) fList := fun E η B S H ds vs w r => by
  unfold fList
  split
  · obtain ⟨v, r2, rfl, ⟨a, xs, rfl, ha, ra⟩, rfl⟩ := r
    exact fun Q k => ⟨a, xs, rfl, .inr (.inl (.inl (cold_of ha).1)), fun p hp => k _ _ _ _ (w.new hp) ⟨p, _, rfl, w.cold_new hp, (w.new hp).rpL ra⟩⟩
  · rename_i x _
    obtain ⟨v, r2, rfl, rx, rfl⟩ := r
    cases hx : vL S x with
    | none => trivial
    | some l =>
      obtain ⟨a, xs, rfl, ha, ra⟩ := w.seeL rx hx
      exact fun Q k => ⟨a, xs, rfl, .inl (.inl (.inl ha)), fun p hp => k _ _ _ _ (w.new hp) ⟨p, _, rfl, w.cold_new hp, (w.new hp).rpL ra⟩⟩
  · trivial
end DL
set_option Elab.async false
set_option linter.all false
set_option maxRecDepth 100000
set_option maxHeartbeats 4000000
set_option autoImplicit false
namespace DL
open PySem PySem.Spec PyProof.Rows L2
/-! ### an own error over ValueError: its __init__ -/
/-- self.f1 = a1, self.f2 = a2 ..: the fields, the last one first -/
def fldV (fs : List Str) (ys : List V) : List (Str × V) := (fs.zip ys).reverse
def spInit (C : Addr) (fs : List Str) : Sp := fun vs H Q _ => ∃ a ys, vs = .ref a :: ys ∧ ys.length = fs.length ∧ H a = some (exo a C none) ∧
  ∀ dx, H dx = none → dx ≠ a → Q .non (upd (upd H dx (exd dx (fldV fs ys))) a (exo a C (some dx)))
/-- what is known of the class x at C, its __init__ at fI -/
structure XCls (P : Program) (w : World) (K : PySem.W.Frag) (mg : Str → Option Value) (base : Heap) (x : Str) (C : Addr) (fs : List Str) : Prop where
  oex : OexC K C
  gC : mg x = some (.ref C)
  ini : ∃ fI fd, PySem.W.findIn K (.ref C) "__init__" = some (some (.ref fI)) ∧ PySem.W.typeIn K (.ref fI) = some (.type "function") ∧ FnOk P w K mg base CX0 1 fI fd ("self" :: fs) (spInit C fs) ∧ Binds K fd ("self" :: fs) []
  one : fs.length ≤ 2
def fldD (fs : List Str) (ds : List D) : List (Str × D) := (fs.zip ds).reverse
theorem RpF.snoc {η : List Addr} {H : Hp} : ∀ {l : List (Str × D)} {ws : List (Str × V)} {f : Str} {d : D} {v : V}, RpF η H l ws → Rp η H d v → RpF η H (l ++ [(f, d)]) (ws ++ [(f, v)])
  | [], _, f, d, v, r, q => by rw [show _ = [] from r]; exact ⟨v, [], rfl, q, rfl⟩
  | (g, e) :: l, _, f, d, v, ⟨u, us, eu, r, t⟩, q => by rw [eu]; exact ⟨u, _, rfl, r, RpF.snoc t q⟩
theorem rp_fld {η : List Addr} {H : Hp} : ∀ {fs : List Str} {ds : List D} {ys : List V}, RpL η H ds ys → RpF η H (fldD fs ds) (fldV fs ys)
  | [], ds, ys, r => by unfold fldD fldV; simp [RpF]
  | f :: fs, [], ys, r => by rw [show ys = [] from r]; unfold fldD fldV; simp [RpF]
  | f :: fs, d :: ds, _, ⟨v, vs, e, rv, rl⟩ => by
    subst e
    have ih := rp_fld (fs := fs) rl
    unfold fldD fldV at ih ⊢
    rw [List.zip_cons_cons, List.zip_cons_cons, List.reverse_cons, List.reverse_cons]
    exact ih.snoc rv
section
variable {X : Cx} {E : EK} {e : Expr} {es : List Expr} {tas : TA} {Fs : Env → Sto → Res (List D)} {pos p pos2 : Pos}
@[simp] def fRaise (C : Addr) (fs : List Str) (F : Env → Sto → Res (List D)) : Env → Sto → Flow := fun ρ S => (F ρ S).flow ρ fun ds S1 => if ds.length = fs.length ∧ fs.length ≤ 2 then .ex C (fldD fs ds) ρ S1 else .bad
theorem so_raise {C : Addr} {fs : List Str} (h : SoA E tas Fs) : SoS E (fun _ σ H => tMkO C (spInit C fs) [] tas σ H fun cls d H' => E σ cls d H') (fRaise C fs Fs) := fun η B S σ ρ H w s => by
  refine Sv.of s (T := tas σ H) (T' := fun vs H1 D => vs.length ≤ 1000 ∧ ∀ a, H1 a = none → spInit C fs (.ref a :: (vs ++ [])) (upd H1 a (exo a C none))
    (fun v H2 => v = .non ∧ ∃ (d : Addr) (fs : List (Str × V)), H2 a = some (exo a C (some d)) ∧ H2 d = some (exd d fs) ∧ H1 d = none ∧ E σ (.ref C) (some d) (upd (del H2 a) d (.xd fs))) (fun _ _ _ => False)) (h η B S σ ρ H w s) fun ds S1 vs η1 B1 H1 n1 r1 => ?_
  split
  · rename_i c
    intro D k
    have hl : vs.length = fs.length := by rw [r1.length]; exact c.1
    refine ⟨by omega, fun a ha => ⟨a, vs, by rw [List.append_nil], hl, upd_same, fun dx hdx hne => ⟨rfl, dx, fldV fs vs, upd_same, ?_, ?_, ?_⟩⟩⟩
    · rw [upd_ne hne, upd_same]
    · rw [upd_ne hne] at hdx; exact hdx
    · have hdx1 : H1 dx = none := by rw [upd_ne hne] at hdx; exact hdx
      have same : Same H1 (upd (del (upd (upd (upd H1 a (exo a C none)) dx (exd dx (fldV fs vs))) a (exo a C (some dx))) a) dx (.xd (fldV fs vs))) := fun b o eb => by
        rw [upd_ne (ne_of_none eb hdx1), del_ne (ne_of_none eb ha), upd_ne (ne_of_none eb ha), upd_ne (ne_of_none eb hdx1), upd_ne (ne_of_none eb ha)]
        exact eb
      have n2 := n1.wd.grow same
      exact k σ dx _ _ _ _ n2 hdx1 (cold_in upd_same (n1.wd.fresh hdx1)) (rp_fld (n2.rpL r1)) (n2.sl (n1.sl s))
  · trivial
theorem ds_raise {x : Str} {C : Addr} {fs : List Str} {W : WX} (xc : XCls X.prog X.w X.K X.mg X.base x C fs) (hr : Room 2 X.A) (tk : Takes X W) (hW : W = fun cls d σ H => E σ cls d H) (ha : DA X E (e :: es) tas Fs) (hc : X.calm = true := by rfl) (hg : Gl X x := by rfl)
    (hdb : (x == ("__debug__" : Str)) = false := by decide) (he : starEach (e :: es) X.env = (false, eval e X.env) :: starEach es X.env := by rfl) (hpl : (backTo pos (starEach es X.env)).any (·.1) = false := by rfl) :
    DS X E (.Raise (some (.Call (.Name x p) (e :: es) [] pos)) none pos2) (fun _ σ H => tMkO C (spInit C fs) [] tas σ H fun cls d H' => E σ cls d H') (fRaise C fs Fs) := by
  obtain ⟨fI, fd, iC, tI, F1, hb⟩ := xc.ini
  subst hW
  exact ⟨ps_raise hc tk (pmk_oex xc.oex iC tI F1 hr hb .nil pass0 hg xc.gC ha.1 hdb he hpl), so_raise ha.2⟩
end
section
variable {P : Program} {w : World} {K : PySem.W.Frag} {mg : Str → Option Value} {base : Heap}
theorem takes_fn {N : List Str} {qual : Str} {sc : Scope} {f : Addr} {cdv : Value} {A : Around} {outer : List PySem.Env} {s : Shared} {H : Hp} {E : XK} : Takes (cxOf (L2.CX P w) P w K mg base N qual sc f cdv A outer s H E) (fun cls d _ H => E cls d H) := takes_of rfl rfl rfl rfl
/-- the __init__ of an error with one field -/
theorem init_one {C fI : Addr} {fd : FuncData} {qual f : Str} {st : Stmt} {x : Str} (F : Fun K "__init__" qual st fI fd) (Sc : FnScope [Str.ofString "self", f] [Str.ofString "self", f] (defScope st)) (oex : OexC K C) (hno : PySem.W.findIn K (.ref C) f = some none)
    (hbody : ∀ X : Cx, X.K = K → X.N = [Str.ofString "self", f] → X.mg = mg → X.env.scope = defScope st → ∃ ms : Str, PSs X (defBody st) (tSeq (tDrop (tVeI X.K (tCons (tVar 0) (tCons (tC (.str ms)) tNil)))) (tOst X.K f (tVar 0) (tVar 1)))) : FnOk P w K mg base CX0 1 fI fd [Str.ofString "self", f] (spInit C [f]) := by
  refine F.ok Sc (fun vs H Q E h => ?_) (fun cdv A outer s H vs Q E hr h => ?_)
  · obtain ⟨a, ys, rfl, hl, _⟩ := h
    rw [List.length_cons, hl]
    rfl
  · obtain ⟨a, ys, rfl, hl, ha, q⟩ := h
    match ys, hl with
    | [y], _ =>
      obtain ⟨ms, hp⟩ := hbody ((cxOf CX0 P w K mg base [Str.ofString "self", f] qual (defScope st) fI cdv A outer s H E).nox) rfl rfl rfl rfl
      refine ⟨_, hp, ?_⟩
      refine ⟨_, rfl, a, C, [.str ms], rfl, by show 1 ≤ 1000; decide, oex, ha, ?_⟩
      exact ⟨y, rfl, _, rfl, a, C, rfl, oex, hno, .inl ⟨ha, fun dx hd hn => q dx hd hn⟩⟩
end
end DL
set_option Elab.async false
set_option linter.all false
set_option maxRecDepth 100000
set_option maxHeartbeats 4000000
set_option autoImplicit false
namespace DL
open PySem PySem.Spec PyProof.Rows L2
/-! ### hot lists: read, stored into, grown -/
section
variable {η B : List Addr} {S : Sto} {H : Hp} {i : Nat} {a : Addr}
theorem cold_hot {o : HO} (h : a ∈ B) : cold B (upd H a o) = cold B H := by
  funext b
  unfold cold
  by_cases hb : b ∈ B
  · rw [if_pos hb, if_pos hb]
  · rw [if_neg hb, if_neg hb, upd_ne fun e => hb (by rw [e]; exact h)]
theorem Wd.setHot (w : Wd η B S H) (hi : η[i]? = some a) {o : HO} {u : HotO} (r : HotRel η (cold B H) (upd H a o) a u) : Nx η B η B (S.set i u) H (upd H a o) := by
  have ha : a ∈ η := List.mem_of_getElem? hi
  have hB := w.sub a ha
  refine ⟨⟨w.sub, fun b hb => ?_, w.nd, by rw [List.length_set]; exact w.len, fun j b v hj hv => ?_⟩, .refl η, w.sub, fun _ h => .inl h, fun _ h => .inl h, fun _ h => h, fun b x nb e => ?_⟩
  · by_cases e : b = a
    · rw [e, upd_same]; exact fun z => nomatch z
    · rw [upd_ne e]; exact w.live b hb
  · rw [cold_hot hB]
    by_cases e : i = j
    · subst e
      rw [hi] at hj
      cases hj
      have hl : i < S.length := by
        rw [← w.len]
        exact (List.getElem?_eq_some_iff.mp hi).1
      rw [List.getElem?_set_self hl] at hv
      cases hv
      exact r
    · rw [List.getElem?_set_ne e] at hv
      have nb : b ≠ a := fun z => by
        subst z
        exact e ((List.getElem?_inj (List.getElem?_eq_some_iff.mp hi).1 w.nd).mp (by rw [hi, hj]))
      exact (w.hot j b v hj hv).mono (fun _ _ q => q) fun x q => by rw [upd_ne nb]; exact q
  · rw [upd_ne fun z => nb (by rw [z]; exact ha)]
    exact e
theorem RpL.set {Hc : Hp} : ∀ {ds : List D} {xs : List V} {d : D} {v : V} (j : Nat), RpL η Hc ds xs → Rp η Hc d v → RpL η Hc (ds.set j d) (xs.set j v)
  | [], _, d, v, j, r, q => by rw [show _ = [] from r]; simp [RpL]
  | e :: ds, _, d, v, 0, ⟨u, us, eu, r, t⟩, q => by rw [eu]; exact ⟨v, us, rfl, q, t⟩
  | e :: ds, _, d, v, j + 1, ⟨u, us, eu, r, t⟩, q => by rw [eu]; exact ⟨u, _, rfl, r, RpL.set j t q⟩
end
def hotL (S : Sto) (i : Nat) : Option (List D) := match S[i]? with
  | some (.lst l) => some l
  | _ => none
theorem hotL_eq {S : Sto} {i : Nat} {l : List D} (h : hotL S i = some l) : S[i]? = some (.lst l) := by
  unfold hotL at h
  split at h
  · rename_i q; rw [q]; cases h; rfl
  · cases h
/-- a value that may be a hot list, as it stands -/
def deref (S : Sto) : D → Option D
  | .hot i => (hotL S i).map .lst
  | d => some d
section
variable {X : Cx} {E : EK} {e a b o ix : Expr} {pos p : Pos} {te ta tb to ti : TE} {Fa Fb Fe Fo Fi : Env → Sto → Res D}
@[simp] def fSetIx (Fe Fo Fi : Env → Sto → Res D) : Env → Sto → Flow := fun ρ S => (Fe ρ S).flow ρ fun d S1 => (Fo ρ S1).flow ρ fun x S2 => (Fi ρ S2).flow ρ fun y S3 => match x, y with
  | .hot i, .int k => (match hotL S3 i with
    | some l => (match ixN l.length k with
      | some j => .nx ρ (S3.set i (.lst (l.set j d)))
      | none => .bad)
    | none => .bad)
  | _, _ => .bad
theorem ds_setIx (he : DE X E e te Fe) (ho : DE X E o to Fo) (hi : DE X E ix ti Fi) (ha : ∀ v, assign (.Subscript o ix p) X.env v = (do
      let ov ← holding [v] (eval o X.env)
      let iv ← holding [v, ov] (eval ix X.env)
      standAt p
      holding [v, ov, iv] (setItem ov iv v)
      release [v, ov, iv] []) := by intro _; rfl) (hs : swapsWithSole [.Subscript o ix p] e pos.line X.env = pure false := by rfl) (hw : swappedStores [.Subscript o ix p] e X.env = pure none := by rfl)
    (h1 : (assignEach [.Subscript o ix p] X.env).map (·.2) = [assign (.Subscript o ix p) X.env] := by rfl) : DS X E (.Assign [.Subscript o ix p] e pos) (tAsg te (gSub to ti rSetL)) (fSetIx Fe Fo Fi) := by
  refine ⟨ps_asg he.1 (pg_sub ho.1 hi.1 set_list ha) hs hw h1, fun η B S σ ρ H w s => ?_⟩
  refine Sv.of s (T := te σ H) (T' := fun v H1 D => to σ H1 fun o H1' => ti σ H1' fun i H2 => rSetL o i v H2 fun H3 => D.nx σ H3) (he.2 η B S σ ρ H w s) fun d S1 v η1 B1 H1 n1 r1 => ?_
  refine Sv.of (n1.sl s) (T := to σ H1) (T' := fun o H1' D => ti σ H1' fun i H2 => rSetL o i v H2 fun H3 => D.nx σ H3) (ho.2 η1 B1 S1 σ ρ H1 n1.wd (n1.sl s)) fun x S2 u η2 B2 H2 n2 r2 => ?_
  refine Sv.of (n2.sl (n1.sl s)) (T := ti σ H2) (T' := fun i H3 D => rSetL u i v H3 fun H4 => D.nx σ H4) (hi.2 η2 B2 S2 σ ρ H2 n2.wd (n2.sl (n1.sl s))) fun y S3 y' η3 B3 H3 n3 r3 => ?_
  split
  · rename_i i k
    obtain ⟨q, rfl, hq⟩ := r2
    obtain rfl := r3
    split
    · rename_i l hl
      split
      · rename_i j hj
        obtain ⟨xs, hx, rl⟩ := n3.wd.hot i q _ (n3.up _ _ hq) (hotL_eq hl)
        have rd := n3.rp (n2.rp r1)
        have nn : Nx η3 B3 η3 B3 (S3.set i (.lst (l.set j d))) H3 (upd H3 q (.lst (xs.set j v))) := n3.wd.setHot (n3.up _ _ hq) ⟨_, upd_same, rl.set j rd⟩
        exact fun D kk => ⟨q, xs, k, j, rfl, rfl, hx, by rw [rl.length]; exact hj, kk σ _ _ _ nn (nn.sl (n3.sl (n2.sl (n1.sl s))))⟩
      · trivial
    · trivial
  · trivial
end
/-! ### statements, further -/
section
variable {X : Cx} {E : EK} {a b : Expr} {tas : TA} {Fs Fi : Env → Sto → Res (List D)} {pos : Pos}
theorem ds_par (i j : Nat) {x y : Str} {px py pt : Pos} {kt k2 pt2} (hN : X.N.Nodup) (h : DA X E [a, b] tas Fs) (hc : X.calm = true := by rfl) (hi : X.N[i]? = some x := by rfl) (hj : X.N[j]? = some y := by rfl) (hij : i ≠ j := by decide) (hx : X.env.scope.names.lookup x = some .local := by rfl) (hy : X.env.scope.names.lookup y = some .local := by rfl)
    (hw : swappedStores [.Tuple [.Name x px, .Name y py] kt pt] (.Tuple [a, b] k2 pt2) X.env = pure (some [x, y]) := by rfl) :
    DS X E (.Assign [.Tuple [.Name x px, .Name y py] kt pt] (.Tuple [a, b] k2 pt2) pos) (tPar i j tas) (fPar i j Fs) := ⟨ps_par hc hN hi hj hij hx hy h.1 hw, so_par h.2⟩
@[simp] def fPut (gF : D → Env → Option Env) (F : Env → Sto → Res D) : Env → Sto → Flow := fun ρ S => (F ρ S).flow ρ fun d S1 => match gF d ρ with
  | some ρ' => .nx ρ' S1
  | none => .bad
theorem ds_put {e tg : Expr} {te : TE} {g : TG} {F : Env → Sto → Res D} {is : List Nat} {gF : D → Env → Option Env} (h : DE X E e te F) (pg : PG X tg g) (sg : SoG g is gF) (hs : swapsWithSole [tg] e pos.line X.env = pure false := by rfl) (hw : swappedStores [tg] e X.env = pure none := by rfl)
    (h1 : (assignEach [tg] X.env).map (·.2) = [assign tg X.env] := by rfl) : DS X E (.Assign [tg] e pos) (tAsg te g) (fPut gF F) :=
  ⟨ps_asg h.1 pg hs hw h1, fun η B S σ ρ H w s => Sv.of s (T := te σ H) (T' := fun v H1 D => g v σ H1 D.nx) (h.2 η B S σ ρ H w s) fun d S1 v η1 B1 H1 n1 r1 => by
    cases hg : gF d ρ with
    | none => trivial
    | some ρ' => exact fun D k => sg η1 B1 S1 H1 d v σ ρ ρ' n1.wd (n1.sl s) r1 hg _ fun σ' s' _ => k σ' η1 B1 H1 n1.wd.refl s'⟩
variable {tg iter elt : Expr} {ifs : List Expr} {scope : Scope} {own : List (Str × Nat)} {wi : TI} {g : TG} {tt : TT} {te : TE} {gF : D → Env → Option Env} {T : Env → Sto → Res Bool} {F : Env → Sto → Res D}
theorem ds_setLc (i : Nat) {y : Str} {py spos : Pos} (bk : Blk X scope own tg ifs elt g tt te gF T F) (hi : DI X E tg iter wi Fi) (hN : X.N.Nodup) (hc : X.calm = true := by rfl) (hy : X.N[i]? = some y := by rfl) (hyl : X.env.scope.names.lookup y = some .local := by rfl)
    (hsw : swapsWith (.ListComp elt [⟨tg, iter, ifs, 0⟩] scope pos) (some (.Name y py)) spos.line X.env = pure true := by exact sw_true rfl rfl rfl (by decide +kernel)) (hs : ∀ x, foldedSetIterable iter X.env x = pure x := by intro _; rfl) :
    DS X E (.Assign [.Name y py] (.ListComp elt [⟨tg, iter, ifs, 0⟩] scope pos) spos) (tAsg (tLc wi g tt te (own.map (·.2))) (gName i)) (fSet i (lcomp (own.map (·.2)) Fi gF T F)) := by
  obtain ⟨is, h1, h2⟩ := bk.sg
  exact ⟨ps_setLc hc hN hy hyl hsw hi.1 bk.ok bk.pg (fun s H C cl fp => (bk.pt s H C cl fp).1) (fun s H C cl fp => (bk.pe s H C cl fp).1) hs, so_set (so_lc hi.2 h1 h2 (bk.pt X.s_0 X.H_0 0 [] []).2 (bk.pe X.s_0 X.H_0 0 [] []).2)⟩
end
/-! ### isinstance of built-in classes -/
@[simp] theorem kb_NoneType_str : kitB "NoneType" "str" = some false := by decide +kernel
@[simp] theorem kb_NoneType_int : kitB "NoneType" "int" = some false := by decide +kernel
@[simp] theorem kb_NoneType_bool : kitB "NoneType" "bool" = some false := by decide +kernel
@[simp] theorem kb_NoneType_dict : kitB "NoneType" "dict" = some false := by decide +kernel
@[simp] theorem kb_NoneType_tuple : kitB "NoneType" "tuple" = some false := by decide +kernel
@[simp] theorem kb_NoneType_list : kitB "NoneType" "list" = some false := by decide +kernel
@[simp] theorem kb_bool_str : kitB "bool" "str" = some false := by decide +kernel
@[simp] theorem kb_bool_int : kitB "bool" "int" = some true := by decide +kernel
@[simp] theorem kb_bool_bool : kitB "bool" "bool" = some true := by decide +kernel
@[simp] theorem kb_bool_dict : kitB "bool" "dict" = some false := by decide +kernel
@[simp] theorem kb_bool_tuple : kitB "bool" "tuple" = some false := by decide +kernel
@[simp] theorem kb_bool_list : kitB "bool" "list" = some false := by decide +kernel
@[simp] theorem kb_int_str : kitB "int" "str" = some false := by decide +kernel
@[simp] theorem kb_int_int : kitB "int" "int" = some true := by decide +kernel
@[simp] theorem kb_int_bool : kitB "int" "bool" = some false := by decide +kernel
@[simp] theorem kb_int_dict : kitB "int" "dict" = some false := by decide +kernel
@[simp] theorem kb_int_tuple : kitB "int" "tuple" = some false := by decide +kernel
@[simp] theorem kb_int_list : kitB "int" "list" = some false := by decide +kernel
@[simp] theorem kb_str_str : kitB "str" "str" = some true := by decide +kernel
@[simp] theorem kb_str_int : kitB "str" "int" = some false := by decide +kernel
@[simp] theorem kb_str_bool : kitB "str" "bool" = some false := by decide +kernel
@[simp] theorem kb_str_dict : kitB "str" "dict" = some false := by decide +kernel
@[simp] theorem kb_str_tuple : kitB "str" "tuple" = some false := by decide +kernel
@[simp] theorem kb_str_list : kitB "str" "list" = some false := by decide +kernel
@[simp] theorem kb_list_str : kitB "list" "str" = some false := by decide +kernel
@[simp] theorem kb_list_int : kitB "list" "int" = some false := by decide +kernel
@[simp] theorem kb_list_bool : kitB "list" "bool" = some false := by decide +kernel
@[simp] theorem kb_list_dict : kitB "list" "dict" = some false := by decide +kernel
@[simp] theorem kb_list_tuple : kitB "list" "tuple" = some false := by decide +kernel
@[simp] theorem kb_list_list : kitB "list" "list" = some true := by decide +kernel
@[simp] theorem kb_tuple_str : kitB "tuple" "str" = some false := by decide +kernel
@[simp] theorem kb_tuple_int : kitB "tuple" "int" = some false := by decide +kernel
@[simp] theorem kb_tuple_bool : kitB "tuple" "bool" = some false := by decide +kernel
@[simp] theorem kb_tuple_dict : kitB "tuple" "dict" = some false := by decide +kernel
@[simp] theorem kb_tuple_tuple : kitB "tuple" "tuple" = some true := by decide +kernel
@[simp] theorem kb_tuple_list : kitB "tuple" "list" = some false := by decide +kernel
@[simp] theorem kb_dict_str : kitB "dict" "str" = some false := by decide +kernel
@[simp] theorem kb_dict_int : kitB "dict" "int" = some false := by decide +kernel
@[simp] theorem kb_dict_bool : kitB "dict" "bool" = some false := by decide +kernel
@[simp] theorem kb_dict_dict : kitB "dict" "dict" = some true := by decide +kernel
@[simp] theorem kb_dict_tuple : kitB "dict" "tuple" = some false := by decide +kernel
@[simp] theorem kb_dict_list : kitB "dict" "list" = some false := by decide +kernel
/-! ### numbers by built-in functions -/
def fAbs (_ : Sto) : List D → Option D
  | [.int i] => some (.int (if i < 0 then -i else i))
  | _ => none
theorem v_abs : VN (fun xs H Q => ∃ i, xs = [V.int i] ∧ Q (V.int (if i < 0 then -i else i)) H) fAbs := fun E η B S H ds vs w r => by
  unfold fAbs
  split
  · obtain ⟨v, r2, rfl, rfl, rfl⟩ := r
    exact fun Q k => ⟨_, rfl, k _ η B H w.refl rfl⟩
  · trivial
def fInt1 (_ : Sto) : List D → Option D
  | [.int i] => some (.int i)
  | [.bl b] => some (.int (if b then 1 else 0))
  | _ => none
theorem v_int : VN (fun xs H Q => (∃ i, xs = [V.int i] ∧ Q (V.int i) H) ∨ ∃ k, xs = [V.bl k] ∧ Q (V.int (if k then 1 else 0)) H) fInt1 := fun E η B S H ds vs w r => by
  unfold fInt1
  split
  · obtain ⟨v, r2, rfl, rfl, rfl⟩ := r
    exact fun Q k => .inl ⟨_, rfl, k _ η B H w.refl rfl⟩
  · obtain ⟨v, r2, rfl, rfl, rfl⟩ := r
    exact fun Q k => .inr ⟨_, rfl, k _ η B H w.refl rfl⟩
  · trivial
def fMin2 (_ : Sto) : List D → Option D
  | [.int i, .int j] => some (.int (if j < i then j else i))
  | _ => none
def fMax2 (_ : Sto) : List D → Option D
  | [.int i, .int j] => some (.int (if j > i then j else i))
  | _ => none
theorem v_min : VN (fun xs H Q => ∃ i j, xs = [V.int i, V.int j] ∧ Q (V.int (if j < i then j else i)) H) fMin2 := fun E η B S H ds vs w r => by
  unfold fMin2
  split
  · obtain ⟨v, r2, rfl, rfl, v', r3, rfl, rfl, rfl⟩ := r
    exact fun Q k => ⟨_, _, rfl, k _ η B H w.refl rfl⟩
  · trivial
theorem v_max : VN (fun xs H Q => ∃ i j, xs = [V.int i, V.int j] ∧ Q (V.int (if j > i then j else i)) H) fMax2 := fun E η B S H ds vs w r => by
  unfold fMax2
  split
  · obtain ⟨v, r2, rfl, rfl, v', r3, rfl, rfl, rfl⟩ := r
    exact fun Q k => ⟨_, _, rfl, k _ η B H w.refl rfl⟩
  · trivial
def opPow (_ : Sto) : D → D → Option D
  | .int i, .int j => if 0 ≤ j ∧ j ≤ 1000000 ∧ i.natAbs < 2 ^ 64 then some (.int (i ^ j.toNat)) else none
  | _, _ => none
theorem v_pow : V2 (rI CPow fun i j => .int (i ^ j.toNat)) opPow := v_I fun S x y z h => by
  unfold opPow at h
  split at h
  · split at h
    · rename_i c; cases h; exact ⟨_, _, rfl, rfl, c, fun _ _ => rfl⟩
    · cases h
  · cases h
end DL
set_option Elab.async false
set_option linter.all false
set_option maxRecDepth 100000
set_option maxHeartbeats 4000000
set_option autoImplicit false
namespace DL
open PySem PySem.Spec PyProof.Rows L2
/-! ### order of data -/
def rLtX (K : PySem.W.Frag) (f : PyData → PyData → Bool) : R2 := fun x y H Q => ∃ p q, Dp K H x p ∧ Dp K H y q ∧ PySem.W.alike p q = true ∧ p.depth ≤ 60 ∧ p ≠ .none ∧ Q (.bl (f p q)) H
section
variable {X : Cx} {K : PySem.W.Frag}
theorem or_ltX (hu : X.A.units + 64 < cLine) (hK : X.K = K := by rfl) : OpR X (compareOp .Lt) (rLtX K PySem.W.dataLt) := by
  subst hK
  intro pins s σ H x y v u Q I rx ry h
  obtain ⟨p, q, hx, hy, ha, hd, hn, k⟩ := h
  obtain ⟨as, r1⟩ := hx.reads I p x v rx
  obtain ⟨bs, r2⟩ := hy.reads I q y u ry
  exact PySem.W.lt_data r1 r2 ha hn (by omega) ⟨.bl _, H, I, rfl, k⟩
theorem or_leX (hu : X.A.units + 64 < cLine) (hK : X.K = K := by rfl) : OpR X (compareOp .LtE) (rLtX K fun p q => !PySem.W.dataLt q p) := by
  subst hK
  intro pins s σ H x y v u Q I rx ry h
  obtain ⟨p, q, hx, hy, ha, hd, hn, k⟩ := h
  obtain ⟨as, r1⟩ := hx.reads I p x v rx
  obtain ⟨bs, r2⟩ := hy.reads I q y u ry
  exact PySem.W.le_data r1 r2 ha hn (by omega) ⟨.bl _, H, I, rfl, k⟩
end
def isNoP : PyData → Bool
  | .none => true
  | _ => false
theorem isNoP_ne {p : PyData} (h : isNoP p = false) : p ≠ .none := fun e => by subst e; cases h
def opLtX (f : PyData → PyData → Bool) (S : Sto) (x y : D) : Option D := (toPy (cl S x)).bind fun p => (toPy (cl S y)).bind fun q => if PySem.W.alike p q = true ∧ p.depth ≤ 60 ∧ isNoP p = false then some (.bl (f p q)) else none
theorem v_ltG (K : PySem.W.Frag) (f : PyData → PyData → Bool) : V2 (rLtX K f) (opLtX f) := fun E η B S H x y u v w rx ry => by
  unfold opLtX
  cases e1 : toPy (cl S x) with
  | none => trivial
  | some p =>
    cases e2 : toPy (cl S y) with
    | none => trivial
    | some q =>
      simp only [Option.bind_some]
      split
      · rename_i c
        exact fun Q k => ⟨p, q, rp_dpS w rx e1, rp_dpS w ry e2, c.1, c.2.1, isNoP_ne c.2.2, k _ η B H w.refl rfl⟩
      · trivial
theorem v_ltX (K : PySem.W.Frag) : V2 (rLtX K PySem.W.dataLt) (opLtX PySem.W.dataLt) := v_ltG K _
theorem v_leX (K : PySem.W.Frag) : V2 (rLtX K fun p q => !PySem.W.dataLt q p) (opLtX fun p q => !PySem.W.dataLt q p) := v_ltG K _
/-! ### sorted -/
def enc (d : D) : PyData := (toPy d).getD .none
def encOk (ds : List D) : Prop := (∀ d ∈ ds, (toPy d).isSome = true) ∧ PySem.W.AllAlike (ds.map enc) ∧ PySem.W.Sortable (ds.map enc) ∧ (∀ d ∈ ds, (enc d).depth ≤ 50) ∧ ds.length ≤ 100000
noncomputable def sortD (ds : List D) : List D := ds.mergeSort (PySem.W.dataLe false enc)
open Classical in
noncomputable def fSorted (S : Sto) : List D → Option D
  | [x] => (vL S x).bind fun l => if encOk l then some (.lst (sortD l)) else none
  | _ => none
/-- sorted(xs), xs a list of data -/
def rSortedX (K : PySem.W.Frag) : List V → Hp → VK → Prop := fun vs H Q => ∃ (a : Addr) (xs : List V) (ds : List D) (η : List Addr) (Hc : Hp), vs = [.ref a] ∧ SqL K H a xs ∧ Same Hc H ∧ RpL η Hc ds xs ∧ encOk ds ∧
  ∀ ys p, H p = none → RpL η Hc (sortD ds) ys → Q (.ref p) (upd H p (.lst ys))
theorem each_rp {η : List Addr} {Hc : Hp} : ∀ {ds : List D} {xs : List V} {us : List Value}, RpL η Hc ds xs → Vals xs us → PySem.W.EachIs (fun u d => ∃ v, RelV v u ∧ Rp η Hc d v) us ds
  | [], xs, us, r, q => by
    rw [show xs = [] from r] at q
    cases q
    exact .nil
  | d :: ds, xs, us, ⟨v, vs, e, rv, rl⟩, q => by
    subst e
    cases q with
    | cons h t => exact .cons ⟨v, h, rv⟩ (each_rp rl t)
theorem rp_each {η : List Addr} {Hc : Hp} : ∀ {ds : List D} {us : List Value}, PySem.W.EachIs (fun u d => ∃ v, RelV v u ∧ Rp η Hc d v) us ds → ∃ xs, RpL η Hc ds xs ∧ Vals xs us
  | _, _, .nil => ⟨[], rfl, .nil⟩
  | _, _, .cons ⟨v, h, rv⟩ t => by
    obtain ⟨xs, r, q⟩ := rp_each t
    exact ⟨v :: xs, ⟨v, xs, rfl, rv, r⟩, .cons h q⟩
theorem cr_sortedX {X : Cx} {K : PySem.W.Frag} (hu : X.A.units + 64 < cLine) (hK : X.K = K := by rfl) : CallR X (.builtin "sorted") (rSortedX K) := by
  subst hK
  intro pins s σ H vs us Q I r h
  obtain ⟨a, xs, ds, η, Hc, rfl, hs, sm, rl, ok, q⟩ := h
  obtain ⟨its, rv, hl, _⟩ := I.list hs
  rw [Vals.ref1 r]
  have e0 := each_rp rl rv
  have er : PySem.W.EachIs (fun u d => ∃ as, Reads s.heap u (enc d) as) its ds := by
    have h1 := PySem.W.each_mem e0
    refine h1.mono fun u d ⟨⟨v, ru, rd⟩, hd⟩ => ?_
    have hp := ok.1 d hd
    obtain ⟨p, hp⟩ := Option.isSome_iff_exists.mp hp
    have := (rp_dp (K := X.K) sm d rd hp).reads I p v u ru
    unfold enc
    rw [hp]
    exact this
  refine PySem.W.sorted_data (bs := ds) (enc := enc) hl.isList e0 er ok.2.1 ok.2.2.1 (size_ok ok.2.2.2.2) (fun d hd => by have := ok.2.2.2.1 d hd; omega) fun out hlen hout => ?_
  obtain ⟨ys, ry, vy⟩ := rp_each hout
  obtain ⟨ep, he'⟩ := PyProof.Rows.sortedAll_at s.heap its (List.toArray out)
  have hlen2 : ys.length ≤ sizeLine := by
    rw [ry.length, List.length_mergeSort]
    exact size_ok ok.2.2.2.2
  exact ⟨.ref _, upd H (s.heap.objs.size + 1) (.lst ys), I.laid (t' := s.toks) (fun _ _ => PyProof.Rows.sortedAll_old) (Nat.le_succ _) ⟨hlen2, out, ep, vy, he'⟩, rfl, q ys _ (I.hok.fresh (Nat.le_succ _)) ry⟩
theorem v_sortedX (K : PySem.W.Frag) : VN (rSortedX K) fSorted := fun E η B S H ds vs w r => by
  unfold fSorted
  split
  · rename_i x
    obtain ⟨v, r2, rfl, rx, rfl⟩ := r
    cases hx : vL S x with
    | none => trivial
    | some l =>
      obtain ⟨a, xs, rfl, ha, ra⟩ := w.seeL rx hx
      simp only [Option.bind_some]
      split
      · rename_i c
        exact fun Q k => ⟨a, xs, _, η, cold B H, rfl, .inl (.inl ha), cold_le, ra, c, fun ys p hp ry => k _ _ _ _ (w.new hp) ⟨p, ys, rfl, w.cold_new hp, (w.new hp).rpL ry⟩⟩
      · trivial
  · trivial
end DL
set_option Elab.async false
set_option linter.all false
set_option maxRecDepth 100000
set_option maxHeartbeats 4000000
set_option autoImplicit false
namespace DL
open PySem PySem.Spec PyProof.Rows L2
/-! ### sorted(xs, key=f), f a def of the text -/
section
variable {X : Cx} {pins : List (Addr × Obj)} {σ : L2.St} {H : Hp} {s : Shared}
/-- far addresses: behind the state at hand they may be changed at will -/
theorem Inv.far {h' : Heap} {t' : Nat} {H' : Hp} {ch : List Addr} (I : Inv X pins σ H s) {n : Nat} (hn : X.s_0.heap.objs.size ≤ n) (hloc : X.env.locals < n) (hcell : ∀ x c, X.env.cells.lookup x = some c → c < n) (hpin : ∀ p ∈ X.pn ++ pins, p.1 < n)
    (hch : ∀ b ∈ ch, n ≤ b) (keep : ∀ b o, b ∉ ch → s.heap.get? b = some o → h'.get? b = some o) (free : ∀ b o, b ∉ ch → s.heap.get? b = some o → H b = none → H' b = none)
    (tups : ∀ b xs, H b = some (.tup xs) → H' b = some (.tup xs)) (frzs : ∀ b o u, H b = some (.frz o u) → H' b = some (.frz o u)) (tbls : ∀ b ps, H b = some (.tbl ps) → ∃ more, H' b = some (.tbl (ps ++ more))) (hok : HOk X.prog X.w H' h') : Inv X pins σ H' { s with heap := h', toks := t' } := by
  have nl : X.env.locals ∉ ch := fun z => absurd (Nat.lt_of_lt_of_le hloc (hch _ z)) (Nat.lt_irrefl _)
  exact I.step (g' := s.gens) (d' := s.drawn) (ch := ch) (fun b hb => ⟨.inr (Nat.le_trans hn (hch b hb)), Nat.ne_of_gt (Nat.lt_of_lt_of_le hloc (hch b hb)), fun x c e => Nat.ne_of_lt (Nat.lt_of_lt_of_le (hcell x c e) (hch b hb)), fun p hp => Nat.ne_of_lt (Nat.lt_of_lt_of_le (hpin p hp) (hch b hb))⟩)
    (fun b o _ _ hc e _ => keep b o hc e) (fun b o _ _ hc e _ => ⟨o.slots, keep b o hc e⟩) free (fun b o hc e => ⟨o, keep b o hc e⟩) tups frzs tbls (fun m hm => by
      obtain ⟨o, es, ep, ho, r⟩ := hm
      exact ⟨o, es, ep, keep _ _ nl ho, r⟩) hok I.bare
end
/-- what is asked of sorted(xs, key=f): m the mirror of f, key what it gives -/
def rSortK (f : Addr) (K : PySem.W.Frag) (m : List D → Sto → Res D) : List V → List V → Hp → VK → Prop := fun vs zs H Q => ∃ (a : Addr) (xs : List V) (ds : List D) (η B : List Addr) (S : Sto) (key : D → D), vs = [.ref a] ∧ zs = [.ref f] ∧ SqL K H a xs ∧ Wd η B S H ∧ RpL η (cold B H) ds xs ∧
  (∀ d ∈ ds, m [d] S = .ok (key d) S) ∧ encOk (ds.map key) ∧ ∀ ys p η' B' H', Nx η B η' B' S H H' → H' p = none → RpL η' (cold B' H') (ds.mergeSort (PySem.W.dataLe false fun d => enc (key d))) ys → Q (.ref p) (upd H' p (.lst ys))
theorem hok_put {P : Program} {w : World} {H : Hp} {h h' : Heap} {ch : List Addr} (ok : HOk P w H h) (hc : ∀ c ∈ ch, H c = none) (k : ∀ b o, b ∉ ch → h.get? b = some o → h'.get? b = some o) : HOk P w H h' := fun b o e =>
  (ok b o e).stay (fun c u hcb q => k c u (fun z => by
    have n := hc c z
    rcases hcb with rfl | hcb
    · rw [e] at n; cases n
    · rw [hcb] at n; cases n) q) (fun _ q => q) fun _ _ q => q
theorem hok_new {P : Program} {w : World} {H : Hp} {h h' : Heap} {ch : List Addr} {a : Addr} {o' : HO} (ok : HOk P w H h) (hc : ∀ c ∈ ch, H c = none) (ha : H a = none) (k : ∀ b o, b ∉ ch → h.get? b = some o → h'.get? b = some o) (new : ObjOk P w (upd H a o') h' a o') : HOk P w (upd H a o') h' := fun b o e => by
  by_cases hb : b = a
  · subst hb; rw [upd_same] at e; cases e; exact new
  · rw [upd_ne hb] at e
    exact (ok b o e).stay (fun c u hcb q => k c u (fun z => by
      have n := hc c z
      rcases hcb with rfl | hcb
      · rw [e] at n; cases n
      · rw [hcb] at n; cases n) q) (fun c q => by rw [upd_ne (ne_of_none q ha)]; exact q) fun c xs q => by rw [upd_ne (ne_of_none q ha)]; exact q
theorem sort_rest {X : Cx} {pins : List (Addr × Obj)} {σ : L2.St} {H : Hp} {s : Shared} {k n : Nat} {f a kS : Addr} {fd : FuncData} {ps : List Str} {m : List D → Sto → Res D} {E' : Value → Shared → Prop} {Q : VK} {e1 : Nat} {its : List Value} {xs : List V} {ds : List D} {η B : List Addr} {S : Sto} {key : D → D}
    (G : FnOk X.prog X.w X.K X.mg X.base (L2.CX X.prog X.w) k f fd ps (spF 1 m)) (hb : Binds X.K fd ps []) (hr1 : Room k X.A.in1.in1) (hu : X.A.units + 64 < cLine) (n1 : X.s_0.heap.objs.size ≤ n) (n2 : X.env.locals < n) (n3 : ∀ x c, X.env.cells.lookup x = some c → c < n) (n4 : ∀ p ∈ X.pn ++ pins, p.1 < n)
    (J : Inv X pins σ H s) (nk : s.heap.get? kS = some (seqObj "list" #[] 0)) (na : s.heap.get? a = some (seqObj "list" #[] e1)) (hka : kS ≠ a) (hk1 : n ≤ kS) (ha1 : n ≤ a) (fk : H kS = none) (fa : H a = none)
    (rv : Vals xs its) (wd : Wd η B S H) (rl : RpL η (cold B H) ds xs) (hm : ∀ d ∈ ds, m [d] S = .ok (key d) S) (ok : encOk (ds.map key))
    (q : ∀ ys p η' B' H', Nx η B η' B' S H H' → H' p = none → RpL η' (cold B' H') (ds.mergeSort (PySem.W.dataLe false fun d => enc (key d))) ys → Q (.ref p) (upd H' p (.lst ys))) :
    wpAny (model X.prog X.w) X.A.in1.in1 (ksk_rest a (.ref f) false its.toArray e1 (.ref kS)) (fun fl s' => fl = .done (.ret .none) ∧ EP X pins σ Q (.ref a) s') E' s := by
  have hlen : its.length = ds.length := by rw [← rv.length, rl.length]
  have hds : ds.length ≤ 100000 := by have := ok.2.2.2.2; rwa [List.length_map] at this
  have hZ : its.length ≤ sizeLine := by rw [hlen]; exact size_ok hds
  have far : ∀ (H' : Hp) (s' : Shared), Inv X pins σ H' s' → ∀ b : Addr, n ≤ b → b ∉ frs X.stack := fun H' s' J' b hb z => by
    rcases List.mem_cons.mp (J'.stkSub b z) with e | z
    · rw [e] at hb; exact absurd (Nat.lt_of_lt_of_le n2 hb) (Nat.lt_irrefl _)
    · obtain ⟨_, o, ho, _⟩ := J'.ok.funs.mem z
      exact absurd (Nat.lt_of_lt_of_le (Heap.lt_size ho) (Nat.le_trans n1 hb)) (Nat.lt_irrefl _)
  unfold ksk_rest
  refine wpAny_bind (wpAny_rule ?_)
  first
    | rw [List.forIn_toArray]
    | (rw [← Array.forIn_toList]; simp only [List.toList_toArray])
    | rw [← Array.forIn_toList]
  refine wpAny_bind (ksk_fold (fun i s' => ∃ η' B' H' kA e kvs, Inv X pins σ H' s' ∧ Nx η B η' B' S H H' ∧ s'.heap.get? kS = some (seqObj "list" kA e) ∧ s'.heap.get? a = some (seqObj "list" #[] e1) ∧ H' kS = none ∧ H' a = none ∧ Vals kvs kA.toList ∧ RpL η' (cold B' H') ((ds.map key).take i) kvs) its 0 s
    ⟨η, B, H, #[], 0, [], J, wd.refl, nk, na, fk, fa, .nil, by rw [List.take_zero]; rfl⟩ ?step ?done)
  case step =>
    rintro j x s' hx ⟨η', B', H', kA, e, kvs, J', nx, nk', na', fk', fa', rk, rlk⟩
    simp only [Nat.zero_add] at rlk ⊢
    have hj : j < its.length := (List.getElem?_eq_some_iff.mp hx).1
    obtain ⟨vv, hvv⟩ : ∃ vv, xs[j]? = some vv := ⟨_, List.getElem?_eq_getElem (by rw [rv.length]; exact hj)⟩
    obtain ⟨u, hu', ru⟩ := rv.get hvv
    obtain rfl : u = x := Option.some.inj (hu'.symm.trans hx)
    obtain ⟨d, hd, rd⟩ := rl.get hvv
    have hdm : d ∈ ds := List.mem_of_getElem? hd
    have rd' := nx.rp rd
    have e0 := J'.env0
    have env1 : Env0 X.prog X.w X.K X.mg X.base X.A.in1.in1 X.stack s' H' := ⟨e0.frames, e0.mod, e0.bs, e0.bsz, e0.funs, e0.frf, e0.hok, e0.bare⟩
    have hkz : kA.size = j := by
      have h1 := rk.length
      have h2 := rlk.length
      have h3 : kA.toList.length = kA.size := Array.length_toList ..
      rw [List.length_take, List.length_map] at h2
      omega
    have hsp : spF 1 m [vv] H' (fun v H'' => ∃ η2 B2, Nx η' B' η2 B2 S H' H'' ∧ Rp η2 (cold B2 H'') (key d) v) (fun _ _ _ => False) := ⟨η', B', S, [d], rfl, nx.wd, ⟨vv, [], rfl, rd', rfl⟩, by rw [hm d hdm]; exact fun v η2 B2 H'' n2 r2 => ⟨η2, B2, n2, r2⟩⟩
    have hps : ([u] ++ ([] : List Value)).length = ps.length := G.len _ _ _ _ hsp
    have run := G.run X.A.in1.in1 X.stack s' H' ⟨[u], []⟩ [u] [vv] _ _ hr1 env1 (hb s' [u] J'.kIn hps) (.cons ru .nil) hsp
    have mid : wpAny (model X.prog X.w) X.A.in1.in1 (call (.ref f) [u]) (fun v s'' => ∃ v' η2 B2 H2, RelV v' v ∧ Inv X pins σ H2 s'' ∧ Nx η' B' η2 B2 S H' H2 ∧ Rp η2 (cold B2 H2) (key d) v' ∧ s''.heap.get? kS = some (seqObj "list" kA e) ∧ s''.heap.get? a = some (seqObj "list" #[] e1) ∧ H2 kS = none ∧ H2 a = none) (fun _ _ => False) s' := by
      refine wpAny_call (codeAny_mono run fun r s'' hq => ?_)
      cases r with
      | error er =>
        obtain ⟨_, _, _, _, _, _, _, _, _, _, _, _, z⟩ := hq
        exact z.elim
      | ok fl =>
        cases fl with
        | ret u2 =>
          obtain ⟨v, H2, os, bare, un, hok, r2, η2, B2, nx2, rk2⟩ := hq
          exact ⟨v, η2, B2, H2, r2, J'.call' (ch := []) os un hok bare (fun b z => absurd z (by simp)), nx2, rk2, un.keep kS _ nk' fk' (far _ _ J' _ hk1) (by simp), un.keep a _ na' fa' (far _ _ J' _ ha1) (by simp), un.free kS _ nk' fk' (by simp), un.free a _ na' fa' (by simp)⟩
        | next => exact False.elim hq
        | brk => exact False.elim hq
        | cont => exact False.elim hq
    refine wpAny_bind (wpAny_attempt (wpAny_mono mid (fun v s'' he => ?_) fun _ _ hF => hF.elim))
    · obtain ⟨v', η2, B2, H2, r2, J2, nx2, rk2, nk2, na2, fk2, fa2⟩ := he
      try dsimp only
      have s1 := Heap.SameBut.update s''.heap kS (Obj.mapSeq (·.push v))
      obtain ⟨c2, hc2⟩ : ∃ c2, (s''.heap.update kS (Obj.mapSeq (·.push v))).get? kS = some (seqObj "list" (kA.push v) c2) := ⟨_, get?_update_seq nk2 (·.push v)⟩
      refine wpAny_bind (listUpdate_at nk2 rfl ?_ (by rw [hkz]; omega) (by rw [Array.size_push, hkz]; omega))
      have kp : ∀ b o, b ∉ [kS] → s''.heap.get? b = some o → (s''.heap.update kS (Obj.mapSeq (·.push v))).get? b = some o := fun b o hb ho => (s1.2 b (by simpa using hb)).trans ho
      have hcn : ∀ c ∈ [kS], H2 c = none := fun c hc => by rw [List.mem_singleton.mp hc]; exact fk2
      refine wpAny_pure ⟨rfl, η2, B2, H2, kA.push v, c2, kvs ++ [v'], ?_, nx.trans nx2, hc2, (s1.2 a hka.symm).trans na2, fk2, fa2, ?_, ?_⟩
      · exact Inv.far J2 n1 n2 n3 n4 (ch := [kS]) (fun b hb => by rw [List.mem_singleton.mp hb]; exact hk1) kp (fun b o _ _ z => z) (fun _ _ z => z) (fun _ _ _ z => z) (fun b ps z => ⟨#[], by rw [z]; simp⟩) (hok_put J2.hok hcn kp)
      · rw [Array.toList_push]
        exact rk.append (.cons r2 .nil)
      · have ek : (ds.map key).take (j + 1) = (ds.map key).take j ++ [key d] := by rw [List.take_add_one, List.getElem?_map, hd]; simp
        rw [ek]
        exact (nx2.rpL rlk).snoc rk2
  case done =>
    rintro s' ⟨η', B', H', kA, e, kvs, J', nx, nk', na', fk', fa', rk, rlk⟩
    have e3 : (ds.map key).take (0 + its.length) = ds.map key := List.take_of_length_le (by rw [List.length_map]; omega)
    rw [e3] at rlk
    have hk' : PySem.W.EachIs (fun v k => ∃ as, Reads s'.heap v k as) kA.toList ((ds.map key).map enc) := by
      refine PySem.W.each_map (R := fun v k => ∃ as, Reads s'.heap v k as) enc ((PySem.W.each_mem (each_rp rlk rk)).mono fun u d ⟨⟨v, ru, rd⟩, hd⟩ => ?_)
      obtain ⟨p, hp⟩ := Option.isSome_iff_exists.mp (ok.1 d hd)
      have := (rp_dp (K := X.K) cold_le d rd hp).reads J' p v u ru
      unfold enc
      rw [hp]
      exact this
    have hsz : kA.size = its.length := by
      have h1 := hk'.length
      rw [Array.length_toList, List.length_map, List.length_map] at h1
      omega
    obtain ⟨G', g1, g2⟩ := restrict s'.heap fun b => decide (b ≠ kS)
    have kp : PySem.W.KeepsBut a G' s'.heap := fun b o _ e => by
      by_cases hbk : b = kS
      · rw [hbk, g2 kS (by simp)] at e; cases e
      · rw [← g1 b (by simpa using hbk)]; exact e
    try dsimp only
    refine wpAny_bind (listItems_at nk' rfl ?_)
    have hal : PySem.W.AllAlike ((ds.map key).map enc) := ok.2.1
    refine PySem.W.keyH_end (κ := PySem.W.dataKind s'.heap ((ds.map key).map enc)) (h₁ := G') kp (g2 kS (by simp)) nk' na' hka (PySem.W.SortsAt.data (s := s') hk' hal ok.2.2.1 (fun d hd => ?_)) hsz hZ fun h3 tk3 c k3 m3 => ⟨rfl, ?_⟩
    · obtain ⟨d', hd', rfl⟩ := List.mem_map.mp hd
      have := ok.2.2.2.1 d' hd'
      show X.A.units + 1 + 1 + (enc d').depth < cLine
      omega
    · have ko : PySem.W.KeyedOut false (ds.map fun d => enc (key d)) its (PySem.W.sortVals (PySem.W.dataKind s'.heap ((ds.map key).map enc)) false kA.toList its) := by
        rw [show (ds.map fun d => enc (key d)) = (ds.map key).map enc by rw [List.map_map]; rfl]
        exact ⟨s'.heap, kA.toList, hal, rfl, hk'⟩
      have er := each_rp (nx.rpL rl) rv
      obtain ⟨ys, ry, vy⟩ := rp_each (PySem.W.keyedOut_each (fun d => enc (key d)) ko er)
      have kb : ∀ b o, b ∉ [kS, a] → s'.heap.get? b = some o → h3.get? b = some o := fun b o hb ho => by
        have hb1 : b ≠ kS := fun z => hb (by simp [z])
        have hb2 : b ≠ a := fun z => hb (by simp [z])
        exact k3 b o hb2 (by rw [g1 b (by simpa using hb1)]; exact ho)
      have hcn : ∀ c ∈ [kS, a], H' c = none := fun c hc => by
        rcases List.mem_cons.mp hc with z | z
        · rw [z]; exact fk'
        · rw [List.mem_singleton.mp z]; exact fa'
      refine ⟨.ref a, upd H' a (.lst ys), Inv.far J' n1 n2 n3 n4 (ch := [kS, a]) (fun b hb => ?_) kb (fun b o hb _ z => ?_) (fun b xs z => ?_) (fun b o u z => ?_) (fun b ps z => ⟨#[], ?_⟩) (hok_new J'.hok hcn fa' kb ⟨?_, _, c, vy, m3⟩), rfl, q ys a η' B' H' nx fa' ry⟩
      · rcases List.mem_cons.mp hb with z | z
        · rw [z]; exact hk1
        · rw [List.mem_singleton.mp z]; exact ha1
      · rw [upd_ne fun e => hb (by simp [e])]; exact z
      · rw [upd_ne (ne_of_none z fa')]; exact z
      · rw [upd_ne (ne_of_none z fa')]; exact z
      · rw [upd_ne (ne_of_none z fa'), z]; simp
      · rw [ry.length, List.length_mergeSort]
        exact size_ok hds
theorem cr_sortedK {X : Cx} {K : PySem.W.Frag} {k : Nat} {f : Addr} {fd : FuncData} {ps : List Str} {m : List D → Sto → Res D} (G : FnOk X.prog X.w X.K X.mg X.base (L2.CX X.prog X.w) k f fd ps (spF 1 m)) (hb : Binds X.K fd ps []) (hr : Room (k + 2) X.A) (hK : X.K = K := by rfl) :
    CallRK X (.builtin "sorted") [Str.ofString "key"] (rSortK f K m) := by
  subst hK
  intro pins s σ H vs zs us ws Q I r rz h
  obtain ⟨a0, xs, ds, η, B, S, key, rfl, rfl, hs, wd, rl, hm, ok, q⟩ := h
  obtain rfl := Vals.ref1 r
  obtain ⟨w1, rfl, e1⟩ := vals1 rz
  obtain rfl : w1 = Value.ref f := e1
  obtain ⟨its, rv, hl, hz⟩ := I.list hs
  have hlen : its.length = ds.length := by rw [← rv.length, rl.length]
  have hds : ds.length ≤ 100000 := by have := ok.2.2.2.2; rwa [List.length_map] at this
  have hZ : its.length ≤ sizeLine := by rw [hlen]; exact size_ok hds
  have hr1 : Room k X.A.in1.in1 := (hr.in1).in1
  show wpAny _ _ (call (.builtin "sorted") [.ref a0] [(Str.ofString "key", .ref f)]) _ _ _
  refine PySem.W.sorted_of_sort hl.isList hZ (PyProof.Rows.ksk_s1 _ _) (fun _ => PyProof.Rows.ksk_l1 _ _) fun E' => ?_
  rw [PyProof.Rows.ksk_t1]
  -- where things stand: n the size at the start, a the copy, kS the keys
  obtain ⟨n, hn⟩ : ∃ n, n = s.heap.objs.size := ⟨_, rfl⟩
  have ho : (PySem.W.copyHeap s.heap its).get? (s.heap.objs.size + 1) = some (seqObj "list" its.toArray 0) := PySem.W.copyHeap_at s.heap its
  rw [← hn] at ho ⊢
  have n1 : X.s_0.heap.objs.size ≤ n := by rw [hn]; exact I.sz
  have n2 : X.env.locals < n := by rw [hn]; exact I.lt
  have n3 : ∀ x c, X.env.cells.lookup x = some c → c < n := fun x c e => by
    obtain ⟨v, o, ho, _⟩ := I.cell x c e
    rw [hn]; exact Heap.lt_size ho
  have n4 : ∀ p ∈ X.pn ++ pins, p.1 < n := fun p hp => by rw [hn]; exact Heap.lt_size (I.pin p hp).1
  obtain ⟨e1, ho1⟩ : ∃ e1, ((PySem.W.copyHeap s.heap its).update (n + 1) (Obj.mapSeq fun _ => (#[] : Array Value))).get? (n + 1) = some (seqObj "list" #[] e1) := ⟨_, get?_update_seq ho fun _ => #[]⟩
  unfold ksk_tree
  refine wpAny_bind (listItems_at ho rfl ?_)
  refine wpAny_bind (listUpdate_at ho rfl ?_ (by rw [List.size_toArray]; exact hZ) (Nat.zero_le _))
  refine wpAny_bind (seqEpoch_at ho1 rfl ?_)
  refine wpAny_bind (wpAny_newTuple ?_ (by show its.length ≤ _; exact hZ))
  refine wpAny_bind (wpAny_newList ?_ (Nat.zero_le _))
  refine wpAny_holding ?_
  have hsz1 : (PySem.W.copyHeap s.heap its).objs.size = n + 2 := by
    unfold PySem.W.copyHeap
    rw [size_push', Heap.size_update, size_push', ← hn]
  refine sort_rest (n := n) (a := n + 1) G hb hr1 hr.units n1 n2 n3 n4 ?J ?nk ?na ?hka ?hk1 (Nat.le_succ _) ?fk ?fa rv wd rl hm ok q
  case J =>
    have old : ∀ b o, s.heap.get? b = some o → ((((PySem.W.copyHeap s.heap its).update (n + 1) (Obj.mapSeq fun _ => (#[] : Array Value))).push (seqObj "tuple" its.toArray 0)).push (seqObj "list" #[] 0)).get? b = some o := fun b o q => by
      have hb : b ≠ n + 1 := fun z => by
        have l := Heap.lt_size q
        rw [z, ← hn] at l
        exact absurd l (Nat.not_lt.mpr (Nat.le_succ n))
      exact Heap.get?_push_of_some _ (Heap.get?_push_of_some _ (((Heap.SameBut.update _ _ _).2 b hb).trans (PySem.W.copyHeap_old q)))
    exact I.un (t' := s.toks) (Un.kept old) (I.hok.kept old)
  case nk => exact Heap.get?_push_size _ rfl
  case na => exact Heap.get?_push_of_some _ (Heap.get?_push_of_some _ ho1)
  case hka =>
    rw [size_push', Heap.size_update, hsz1]
    exact fun z => by
      have z' : (n + 2 + 1 : Nat) = n + 1 := z
      omega
  case hk1 =>
    rw [size_push', Heap.size_update, hsz1]
    omega
  case fk =>
    refine I.hok.fresh ?_
    rw [size_push', Heap.size_update, hsz1]
    omega
  case fa => exact I.hok.fresh (by omega)
section
variable {X : Cx} {E : EK} {e : Expr} {te : TE} {F : Env → Sto → Res D} {p pos kp npos : Pos}
open Classical in
noncomputable def fSortK (m : List D → Sto → Res D) (l : List D) (S : Sto) : Res D :=
  if h : ∃ key : D → D, (∀ d ∈ l, m [d] S = .ok (key d) S) ∧ encOk (l.map key) then .ok (.lst (l.mergeSort (PySem.W.dataLe false fun d => enc (h.choose d)))) S else .bad
@[simp] noncomputable def sortK (m : List D → Sto → Res D) (F : Env → Sto → Res D) : Env → Sto → Res D := fun ρ S => (F ρ S).bind fun d S1 => match vL S1 d with
  | some l => fSortK m l S1
  | none => .bad
theorem de_sortK {K : PySem.W.Frag} {k : Nat} {f : Addr} {fd : FuncData} {ps : List Str} {x : Str} {m : List D → Sto → Res D} (G : FnOk X.prog X.w X.K X.mg X.base (L2.CX X.prog X.w) k f fd ps (spF 1 m)) (hb : Binds X.K fd ps []) (hr : Room (k + 2) X.A) (hm : X.mg "sorted" = none) (hx : X.mg x = some (.ref f)) (h : DE X E e te F)
    (hK : X.K = K := by rfl) (hg : Gl X "sorted" := by rfl) (hgx : Gl X x := by rfl) (hdx : (x == ("__debug__" : Str)) = false := by decide)
    (hs : starEach [e] X.env = (false, eval e X.env) :: starEach [] X.env := by rfl) (he : backTo pos (starEach [e] X.env) = (false, eval e X.env) :: backTo pos (starEach [] X.env) := by rfl) (hpl : (backTo pos (starEach [e] X.env)).any (·.1) = false := by rfl)
    (hall : (backToKw pos (keywordEach [⟨some "key", .Name x npos, kp⟩] X.env)).all (·.1.isSome) = true := by rfl) (hnone : (backToKw pos (keywordEach [⟨some "key", .Name x npos, kp⟩] X.env)).any (·.1.isNone) = false := by rfl) (hks : (backToKw pos (keywordEach [⟨some "key", .Name x npos, kp⟩] X.env)).filterMap (·.1) = [Str.ofString "key"] := by rfl) :
    DE X E (.Call (.Name "sorted" p) [e] [⟨some "key", .Name x npos, kp⟩] pos) (tCKw (rSortK f K m) (tCons te tNil) (tCons (tC (.ref f)) tNil)) (sortK m F) := by
  subst hK
  refine ⟨pe_callBK (cr_sortedK G hb hr) hg hm (by decide +kernel) (pa_cons h.1 pa_nil hs) (pk_cons (pe_glob (v := .ref f) hgx hx rfl hdx) pk_nil) (by decide) (by decide) he hpl hall hnone hks, fun η B S σ ρ H w s => ?_⟩
  refine Ev.bind (T := te σ H) (T' := fun v H1 Q => rSortK f X.K m [v] [V.ref f] H1 Q) (h.2 η B S σ ρ H w s) fun d S1 v η1 B1 H1 n1 r1 => ?_
  cases hd : vL S1 d with
  | none => trivial
  | some l =>
  obtain ⟨a, xs, rfl, ha, ra⟩ := n1.wd.seeL r1 hd
  show EvD η1 B1 (E σ) _ H1 (fSortK m l S1)
  unfold fSortK
  split
  · rename_i hh
    have hsp := hh.choose_spec
    exact fun Q kk => ⟨a, xs, l, η1, B1, S1, hh.choose, rfl, rfl, .inl (.inl ha), n1.wd, ra, hsp.1, hsp.2, fun ys p η' B' H' nx hp ry => kk _ _ _ _ (nx.trans (nx.wd.new hp)) ⟨p, ys, rfl, nx.wd.cold_new hp, (nx.wd.new hp).rpL ry⟩⟩
  · trivial
/-- the new list is hot -/
def hotR : Res D → Res D
  | .ok (.lst l) S => .ok (.hot S.length) (S ++ [.lst l])
  | _ => .bad
@[simp] noncomputable def sortKH (m : List D → Sto → Res D) (F : Env → Sto → Res D) : Env → Sto → Res D := fun ρ S => (F ρ S).bind fun d S1 => match vL S1 d with
  | some l => hotR (fSortK m l S1)
  | none => .bad
theorem de_sortKH {K : PySem.W.Frag} {k : Nat} {f : Addr} {fd : FuncData} {ps : List Str} {x : Str} {m : List D → Sto → Res D} (G : FnOk X.prog X.w X.K X.mg X.base (L2.CX X.prog X.w) k f fd ps (spF 1 m)) (hb : Binds X.K fd ps []) (hr : Room (k + 2) X.A) (hm : X.mg "sorted" = none) (hx : X.mg x = some (.ref f)) (h : DE X E e te F)
    (hK : X.K = K := by rfl) (hg : Gl X "sorted" := by rfl) (hgx : Gl X x := by rfl) (hdx : (x == ("__debug__" : Str)) = false := by decide)
    (hs : starEach [e] X.env = (false, eval e X.env) :: starEach [] X.env := by rfl) (he : backTo pos (starEach [e] X.env) = (false, eval e X.env) :: backTo pos (starEach [] X.env) := by rfl) (hpl : (backTo pos (starEach [e] X.env)).any (·.1) = false := by rfl)
    (hall : (backToKw pos (keywordEach [⟨some "key", .Name x npos, kp⟩] X.env)).all (·.1.isSome) = true := by rfl) (hnone : (backToKw pos (keywordEach [⟨some "key", .Name x npos, kp⟩] X.env)).any (·.1.isNone) = false := by rfl) (hks : (backToKw pos (keywordEach [⟨some "key", .Name x npos, kp⟩] X.env)).filterMap (·.1) = [Str.ofString "key"] := by rfl) :
    DE X E (.Call (.Name "sorted" p) [e] [⟨some "key", .Name x npos, kp⟩] pos) (tCKw (rSortK f K m) (tCons te tNil) (tCons (tC (.ref f)) tNil)) (sortKH m F) := by
  subst hK
  refine ⟨pe_callBK (cr_sortedK G hb hr) hg hm (by decide +kernel) (pa_cons h.1 pa_nil hs) (pk_cons (pe_glob (v := .ref f) hgx hx rfl hdx) pk_nil) (by decide) (by decide) he hpl hall hnone hks, fun η B S σ ρ H w s => ?_⟩
  refine Ev.bind (T := te σ H) (T' := fun v H1 Q => rSortK f X.K m [v] [V.ref f] H1 Q) (h.2 η B S σ ρ H w s) fun d S1 v η1 B1 H1 n1 r1 => ?_
  cases hd : vL S1 d with
  | none => trivial
  | some l =>
  obtain ⟨a, xs, rfl, ha, ra⟩ := n1.wd.seeL r1 hd
  show EvD η1 B1 (E σ) _ H1 (hotR (fSortK m l S1))
  unfold fSortK
  split
  · rename_i hh
    have hsp := hh.choose_spec
    exact fun Q kk => ⟨a, xs, l, η1, B1, S1, hh.choose, rfl, rfl, .inl (.inl ha), n1.wd, ra, hsp.1, hsp.2, fun ys p η' B' H' nx hp ry => kk _ _ _ _ (nx.trans (nx.wd.alloc (u := .lst _) hp ⟨ys, upd_same, ((nx.wd.hide hp).rpL ry).up (up_snoc _ _)⟩)) ⟨p, rfl, nx.wd.at_new⟩⟩
  · trivial
end
theorem fSortK_eq {m : List D → Sto → Res D} {l : List D} {S : Sto} (key : D → D) (h : ∀ d ∈ l, m [d] S = .ok (key d) S) (ok : encOk (l.map key)) : fSortK m l S = .ok (.lst (l.mergeSort (PySem.W.dataLe false fun d => enc (key d)))) S := by
  have hh : ∃ key : D → D, (∀ d ∈ l, m [d] S = .ok (key d) S) ∧ encOk (l.map key) := ⟨key, h, ok⟩
  unfold fSortK
  rw [dif_pos hh]
  have hsp := hh.choose_spec
  have same : ∀ d ∈ l, hh.choose d = key d := fun d hd => by
    have := (hsp.1 d hd).symm.trans (h d hd)
    injection this
  have e := List.map_mergeSort (f := id) (l := l) (r := PySem.W.dataLe false fun d => enc (hh.choose d)) (s := PySem.W.dataLe false fun d => enc (key d)) (fun a ha b hb => by
    unfold PySem.W.dataLe PySem.W.sortLe
    simp [same a ha, same b hb])
  simp only [List.map_id] at e
  rw [e]
@[simp] theorem opEq_int (S : Sto) (i j : Int) : opEq S (.int i) (.int j) = some (.bl (decide (i = j))) := by
  simp [opEq, eqD, scD, scal]
end DL
set_option Elab.async false
set_option linter.all false
set_option maxRecDepth 100000
set_option maxHeartbeats 4000000
set_option autoImplicit false
namespace DL
open PySem PySem.Spec PyProof.Rows L2
/-! ### def f(*names) -/
def spS (m : List D → Sto → Res D) : Sp := fun vs H Q E => ∃ η B S ds, ds.length ≤ 100000 ∧ Wd η B S H ∧ RpL η (cold B H) ds vs ∧ PostR η B H Q E (m ds S)
def oneT (m : List D → Sto → Res D) : List D → Sto → Res D := fun ds S => match ds with | [.tup l] => m l S | _ => .bad
section
variable {P : Program} {w : World} {K : PySem.W.Frag} {mg : Str → Option Value} {base : Heap}
theorem fnd_star {x qual : Str} {st : Stmt} {f : Addr} {fd : FuncData} {N : List Str} {pv : Str} {k : Nat} (m : List D → Sto → Res D) (F : Fun K x qual st f fd) (Sc : FnScope N [pv] (defScope st))
    (hb : ∀ (kV doc pm : Value) (an : Option Addr) (cdv ct : Value) (rest : List Value), bindArgs (PySem.W.fnOf x qual (defArgs st) (defBody st) (defScope st) .none kV doc pm an cdv ct) ⟨rest, []⟩ = (newTuple rest >>= fun t => pure [(pv, t)]))
    (hbody : ∀ (cdv : Value) (A : Around) (outer : List PySem.Env) (s : Shared) (H : Hp) (E : XK), Room k (A.deeper (envOfC qual (defScope st) s.heap.objs.size f cdv)) →
      ∃ t Φ, DSs (cxOf (L2.CX P w) P w K mg base N qual (defScope st) f cdv A outer s H E) (fun _ => E) (defBody st) t Φ ∧ ∀ ds S, Imp (m ds S) (runF N Φ [.tup ds] S)) : FnR P w K mg base (L2.CX P w) (k + 1) f (spS m) := by
  obtain ⟨oc, od, kV, doc, pm, an, cdv, ct, osl, rfl, lk, hcd⟩ := F.ex
  refine (StX.fn_star (ps := []) (pv := pv) (sp := spF 1 (oneT m)) lk hcd Sc StX.cxUp (fun us rest hl => ?_) fun A outer s H vs Q E hr h => ?_).imp fun vs H Q E h => ?_
  · obtain rfl : us = [] := List.length_eq_zero_iff.mp hl
    exact hb kV doc pm an cdv ct rest
  · obtain ⟨η, B, S, ds, hl, wd, r, q⟩ := h
    obtain ⟨t, Φ, ⟨pss, so⟩, im⟩ := hbody cdv A outer s H E hr
    refine ⟨t, pss, sv_run so wd r ?_ q⟩
    match ds, hl with
    | [.tup l], _ => exact im l S
    | [.non], _ => exact .inl rfl
    | [.bl _], _ => exact .inl rfl
    | [.int _], _ => exact .inl rfl
    | [.str _], _ => exact .inl rfl
    | [.lst _], _ => exact .inl rfl
    | [.dic _], _ => exact .inl rfl
    | [.dit _], _ => exact .inl rfl
    | [.scr _], _ => exact .inl rfl
    | [.obj _ _], _ => exact .inl rfl
    | [.hot _], _ => exact .inl rfl
    | [.cls _], _ => exact .inl rfl
    | [.ty _], _ => exact .inl rfl
    | [.exn _ _ _], _ => exact .inl rfl
  · obtain ⟨η, B, S, ds, hl, wd, r, q⟩ := h
    refine ⟨[], vs, rfl, rfl, by rw [r.length]; exact size_ok hl, fun p hp => ?_⟩
    have nx := wd.new (o := .tup vs) hp
    refine ⟨η, B, S, [.tup ds], rfl, nx.wd, ⟨_, _, rfl, ⟨p, vs, rfl, wd.cold_new hp, nx.rpL r⟩, rfl⟩, ?_⟩
    show PostR η B (upd H p (.tup vs)) Q E (m ds S)
    cases e : m ds S with
    | bad => rw [e] at q; exact q
    | ok d S' => rw [e] at q; exact fun v η' B' H' n => q v η' B' H' (nx.trans n)
    | exc C fs S' =>
      rw [e] at q
      refine fun dd ws η' B' H' n h1 => q dd ws η' B' H' (nx.trans n) ?_
      by_cases z : dd = p
      · rw [z, upd_same] at h1; cases h1
      · rwa [upd_ne z] at h1
end
@[simp] def callS (m : List D → Sto → Res D) (F : Env → Sto → Res (List D)) : Env → Sto → Res D := fun ρ S => (F ρ S).bind fun ds S1 => if ds.length ≤ 100000 then m ds S1 else .bad
section
variable {X : Cx} {E : EK} {e : Expr} {es : List Expr} {pos p : Pos} {tas : TA} {Fs : Env → Sto → Res (List D)} {CX : CXT} {k : Nat} {m : List D → Sto → Res D} {f : Addr} {x : Str}
theorem ev_spS {m : List D → Sto → Res D} {E : XK} {η B : List Addr} {S : Sto} {H : Hp} {ds : List D} {vs : List V} (hl : ds.length ≤ 100000) (w : Wd η B S H) (r : RpL η (cold B H) ds vs) : EvD η B E (fun Q => spS m vs H Q E) H (m ds S) := by
  cases e : m ds S with
  | bad => trivial
  | ok d S' =>
    intro Q k
    refine ⟨η, B, S, ds, hl, w, r, ?_⟩
    rw [e]
    exact k
  | exc C fs S' =>
    intro Q k
    refine ⟨η, B, S, ds, hl, w, r, ?_⟩
    rw [e]
    exact k
theorem so_callS (ha : SoA E tas Fs) : SoE E (tCallS' (spS m) E tas) (callS m Fs) := fun η B S σ ρ H w s =>
  Ev.bind (T := tas σ H) (T' := fun vs H1 Q => spS m vs H1 Q (E σ)) (ha η B S σ ρ H w s) fun ds S1 vs η1 B1 H1 n1 r1 => by
    by_cases hl : ds.length ≤ 100000
    · rw [if_pos hl]
      exact ev_spS hl n1.wd r1
    · rw [if_neg hl]; trivial
theorem run_fnS {pins : List (Addr × Obj)} {σ : L2.St} {H : Hp} {s : Shared} {sp : Sp} {Q : VK} {us : List Value} {vs : List V} (F : FnR X.prog X.w X.K X.mg X.base CX k f sp) (hr : Room k X.A) (hx : PassS CX X E) (I : Inv X pins σ H s) (r : Vals vs us) (h : sp vs H Q (E σ)) :
    codeAny (model X.prog X.w) X.A (.call (.ref f) ⟨us, []⟩) (fun r s' => match r with | .ok (.ret v) => EP X pins σ Q v s' | .ok _ => False | .error e => X.xe e s') s := by
  refine codeAny_mono (F X.A X.stack s H us vs Q (E σ) hr I.env0 r h) fun r s' hq => ?_
  cases r with
  | error e => exact hx pins σ H s e s' I hq
  | ok fl =>
    cases fl with
    | ret u => exact I.after hq
    | next => exact False.elim hq
    | brk => exact False.elim hq
    | cont => exact False.elim hq
theorem de_callR (G : FnR X.prog X.w X.K X.mg X.base CX k f (spS m)) (hr : Room k X.A) (hm : X.mg x = some (.ref f)) (hk : PySem.W.keepIn X.K (.ref f) = true)
    (hx : PassS CX X E) (ha : DA X E (e :: es) tas Fs) (hg : Gl X x := by rfl) (hdb : (x == ("__debug__" : Str)) = false := by decide) (he : starEach (e :: es) X.env = (false, eval e X.env) :: starEach es X.env := by rfl) (hpl : (backTo pos (starEach es X.env)).any (·.1) = false := by rfl) :
    DE X E (.Call (.Name x p) (e :: es) [] pos) (tCallS' (spS m) E tas) (callS m Fs) := by
  refine ⟨⟨fun pins s σ H Q I h => ?_⟩, so_callS ha.2⟩
  refine wpAny_Call_Name_kw (ld_glob I hg hm ?_ hdb)
  refine PySem.W.callWith_K (h₀ := X.base) I.ok.mod.kin hk (thn (ha.1.run pos pins s σ H _ I h) fun us s1 ⟨vs, H1, I1, r, q⟩ => ⟨I1.kIn, ?_⟩) he hpl
  exact wpAny_call (run_fnS G hr hx I1 r q)
theorem de_callR0 (G : FnR X.prog X.w X.K X.mg X.base CX k f (spS m)) (hr : Room k X.A) (hm : X.mg x = some (.ref f)) (hk : PySem.W.keepIn X.K (.ref f) = true)
    (hx : PassS CX X E) (hg : Gl X x := by rfl) (hdb : (x == ("__debug__" : Str)) = false := by decide) :
    DE X E (.Call (.Name x p) [] [] pos) (tCallS' (spS m) E tNil) (callS m fNilA) := by
  refine ⟨⟨fun pins s σ H Q I h => ?_⟩, so_callS (da_nil (X := X)).2⟩
  refine wpAny_Call_Name_kw (ld_glob I hg hm ?_ hdb)
  exact PySem.W.callWith_K0 I.kIn hk (wpAny_call (run_fnS (us := []) G hr hx I .nil h))
end
end DL
set_option Elab.async false
set_option linter.all false
set_option maxRecDepth 100000
set_option maxHeartbeats 4000000
set_option autoImplicit false
namespace DL
open PySem PySem.Spec PyProof.Rows L2
/-! ### try .. except C as e -/
theorem Sl.clear {η : List Addr} {H : Hp} {σ : L2.St} {ρ : Env} {i : Nat} (s : Sl η H σ ρ) : Sl η H (σ.set i none) (ρ.set i none) := by
  refine ⟨by rw [List.length_set, List.length_set]; exact s.1, fun j e h => ?_⟩
  by_cases hj : i = j
  · subst hj
    rw [List.getElem?_set_self'] at h
    cases hq : ρ[i]? <;> rw [hq] at h <;> cases h
  · rw [List.getElem?_set_ne hj] at h ⊢
    exact s.2 j e h
@[simp] def wipeF (i : Nat) : Flow → Flow
  | .nx ρ S => .nx (ρ.set i none) S
  | .bk ρ S => .bk (ρ.set i none) S
  | .ct ρ S => .ct (ρ.set i none) S
  | .rt d S => .rt d S
  | _ => .bad
open Classical in
noncomputable def tryAs (sub : Addr → Option Bool) (i : Nat) (Φb : Env → Sto → Flow) (Φs : Addr → Value → Option Addr → Env → Sto → Flow) : Env → Sto → Flow := fun ρ S => match Φb ρ S with
  | .ex C fs ρ1 S1 => match sub C with
    | some true => if h : ∃ R, ∀ a dd, wipeF i (Φs a (.ref C) (some dd) (ρ1.set i (some (.exn a dd fs))) S1) = R then h.choose else .bad
    | some false => .ex C fs ρ1 S1
    | none => .bad
  | x => x
theorem tryAs_ex {sub : Addr → Option Bool} {i : Nat} {Φb : Env → Sto → Flow} {Φs : Addr → Value → Option Addr → Env → Sto → Flow} {ρ ρ1 : Env} {S S1 : Sto} {C : Addr} {fs : List (Str × D)} (R : Flow) (h : Φb ρ S = .ex C fs ρ1 S1) (hs : sub C = some true)
    (hR : ∀ a dd, wipeF i (Φs a (.ref C) (some dd) (ρ1.set i (some (.exn a dd fs))) S1) = R) : tryAs sub i Φb Φs ρ S = R := by
  have hh : ∃ R, ∀ a dd, wipeF i (Φs a (.ref C) (some dd) (ρ1.set i (some (.exn a dd fs))) S1) = R := ⟨R, hR⟩
  unfold tryAs
  rw [h]
  show (match sub C with | some true => _ | some false => _ | none => _) = R
  rw [hs]
  dsimp only
  rw [dif_pos hh]
  exact (hh.choose_spec 0 0).symm.trans (hR 0 0)
theorem tryAs_rt {sub : Addr → Option Bool} {i : Nat} {Φb : Env → Sto → Flow} {Φs : Addr → Value → Option Addr → Env → Sto → Flow} {ρ : Env} {S S1 : Sto} {d : D} (h : Φb ρ S = .rt d S1) : tryAs sub i Φb Φs ρ S = .rt d S1 := by
  unfold tryAs
  rw [h]
theorem tryAs_nx {sub : Addr → Option Bool} {i : Nat} {Φb : Env → Sto → Flow} {Φs : Addr → Value → Option Addr → Env → Sto → Flow} {ρ ρ1 : Env} {S S1 : Sto} (h : Φb ρ S = .nx ρ1 S1) : tryAs sub i Φb Φs ρ S = .nx ρ1 S1 := by
  unfold tryAs
  rw [h]
theorem sv_all {η B : List Addr} {E : EK} {T : Ends → Prop} {H : Hp} {ι : Type} {P : ι → Prop} {T' : ι → Ends → Prop} {R : Flow} (hz : ∀ D, (∀ g, P g → T' g D) → T D) (hS : ∀ g, P g → Sv η B E (T' g) H R) : Sv η B E T H R := by
  cases R with
  | bad => trivial
  | nx ρ S => exact fun D k => hz D fun g hg => hS g hg D k
  | bk ρ S => exact fun D k => hz D fun g hg => hS g hg D k
  | ct ρ S => exact fun D k => hz D fun g hg => hS g hg D k
  | rt d S => exact fun D k => hz D fun g hg => hS g hg D k
  | ex C fs ρ S => exact fun D k => hz D fun g hg => hS g hg D k
theorem sv_wipe {η B : List Addr} {E : EK} {T : Ends → Prop} {H H' : Hp} {η' B' : List Addr} {S1 : Sto} {fl : Flow} {i : Nat} (n : Nx η B η' B' S1 H H') (q : Sv η' B' EN T H' fl) :
    Sv η B E (fun D => T { nx := fun σ' H' => D.nx (σ'.set i none) H', rt := D.rt, bk := fun σ' H' => D.bk (σ'.set i none) H', ct := fun σ' H' => D.ct (σ'.set i none) H' }) H (wipeF i fl) := by
  cases fl with
  | bad => trivial
  | ex C fs ρ S => trivial
  | nx ρ S => exact fun D k => q _ fun σ2 η2 B2 H2 n2 s2 => k _ _ _ _ (n.trans n2) s2.clear
  | bk ρ S => exact fun D k => q _ fun σ2 η2 B2 H2 n2 s2 => k _ _ _ _ (n.trans n2) s2.clear
  | ct ρ S => exact fun D k => q _ fun σ2 η2 B2 H2 n2 s2 => k _ _ _ _ (n.trans n2) s2.clear
  | rt d S => exact fun D k => q _ fun v η2 B2 H2 n2 r2 => k _ _ _ _ (n.trans n2) r2
theorem so_tryAs {E : EK} {K : PySem.W.Frag} {c : Value} {i : Nat} {ts : Addr → Value → Option Addr → TS} {tb : WX → TS} {sub : Addr → Option Bool} {Φb : Env → Sto → Flow} {Φs : Addr → Value → Option Addr → Env → Sto → Flow}
    (hsub : ∀ C b, sub C = some b → PySem.W.exmOne K (.ref C) c = some b) (hb : ∀ W : WX, SoS (fun σ c d H => W c d σ H) (tb W) Φb) (hs : ∀ a cls d, SoS EN (ts a cls d) (Φs a cls d)) :
    SoS E (fun D σ H => tb (wAs K c i ts (fun cls d σ H => E σ cls d H) D) D σ H) (tryAs sub i Φb Φs) := fun η B S σ ρ H w s => by
  have z := fun D : Ends => hb (wAs K c i ts (fun cls d σ H => E σ cls d H) D) η B S σ ρ H w s
  unfold tryAs
  cases e : Φb ρ S with
  | bad => trivial
  | nx ρ1 S1 => exact fun D k => by have y := z D; rw [e] at y; exact y D k
  | bk ρ1 S1 => exact fun D k => by have y := z D; rw [e] at y; exact y D k
  | ct ρ1 S1 => exact fun D k => by have y := z D; rw [e] at y; exact y D k
  | rt d S1 => exact fun D k => by have y := z D; rw [e] at y; exact y D k
  | ex C fs ρ1 S1 =>
    show Sv η B E _ H (match sub C with | some true => _ | some false => _ | none => _)
    cases hc : sub C with
    | none => trivial
    | some b =>
      have hx := hsub C b hc
      cases b with
      | false =>
        intro D k
        have y := z D
        rw [e] at y
        exact y D fun σ' dd ws η' B' H' n h1 h2 h3 h4 => ⟨false, hx, nofun, fun _ => k σ' dd ws η' B' H' n h1 h2 h3 h4⟩
      | true =>
        dsimp only
        split
        · rename_i hh
          have hR := hh.choose_spec
          refine sv_all (ι := Addr × Addr × List (Str × V) × L2.St × Hp × List Addr × List Addr) (P := fun g => Nx η B g.2.2.2.2.2.1 g.2.2.2.2.2.2 S1 H g.2.2.2.2.1 ∧ H g.2.1 = none ∧ cold g.2.2.2.2.2.2 g.2.2.2.2.1 g.2.1 = some (.xd g.2.2.1) ∧ RpF g.2.2.2.2.2.1 (cold g.2.2.2.2.2.2 g.2.2.2.2.1) fs g.2.2.1 ∧ Sl g.2.2.2.2.2.1 (cold g.2.2.2.2.2.2 g.2.2.2.2.1) g.2.2.2.1 ρ1)
            (T' := fun g D => ts g.1 (.ref C) (some g.2.1) { nx := fun σ' H' => D.nx (σ'.set i none) H', rt := D.rt, bk := fun σ' H' => D.bk (σ'.set i none) H', ct := fun σ' H' => D.ct (σ'.set i none) H' } (g.2.2.2.1.set i (some (.ref g.1))) g.2.2.2.2.1) (fun D k => ?_) fun g hg => ?_
          · have y := z D
            rw [e] at y
            exact y D fun σ' dd ws η' B' H' n h1 h2 h3 h4 => ⟨true, hx, fun _ a ha => k (a, dd, ws, σ', H', η', B') ⟨n, h1, h2, h3, h4⟩, nofun⟩
          · obtain ⟨a, dd, ws, σ', H', η', B'⟩ := g
            obtain ⟨n, h1, h2, h3, h4⟩ := hg
            have q := hs a (.ref C) (some dd) η' B' S1 (σ'.set i (some (.ref a))) (ρ1.set i (some (.exn a dd fs))) H' n.wd (h4.set ⟨ws, rfl, h2, h3⟩)
            rw [← hR a dd]
            exact sv_wipe n q
        · trivial
section
variable {X : Cx} {E : EK}
theorem pass_tk {W : WX} (tk : Takes X W) : PassS (L2.CX X.prog X.w) X (fun σ c d H => W c d σ H) := fun pins σ H s e s' I c => tk e s' (XE.of_call I (fun cls d H' h => h) c)
theorem takes_any (hs : X.stack = X.env :: X.outer) (hf : X.env.frame = some X.env.locals) {W : WX} : ∃ xe, Takes (X.tr [] xe) W ∧ PassesOwn (model X.prog X.w) X.A X.env xe := by
  refine ⟨fun e s' => wpAny (model X.prog X.w) X.A (noteFrame e X.env) (fun _ s2 => wpAny (model X.prog X.w) X.A (setFlight e none) (fun _ _ => True) (fun _ _ => True) s2) (fun _ _ => True) s', ?_, PassesOwn.looking⟩
  rintro u s' ⟨a, B, sI, pins, σ, H, cls, d, rfl, J, nb, up, sky, na, os, ag, w⟩
  have hfr : X.A.frames = some (X.env :: X.outer) := by
    have q := J.ok.frames
    rw [← hs]
    exact q
  have sky' : Sky B (X.env :: X.outer) a (Zc cls d) X.env.locals s'.heap := by rw [← hs]; exact sky
  exact Sky.land Zc.steady hfr hf sky' fun _ _ _ => trivial
theorem ds_tryAs {x n : Str} {c : Value} {i : Nat} {body suite : List Stmt} {b₀ : Stmt} {np pos pos' : Pos} {tb : WX → TS} {ts : Addr → Value → Option Addr → TS} {Φb : Env → Sto → Flow} {Φs : Addr → Value → Option Addr → Env → Sto → Flow} {W : WX} (sub : Addr → Option Bool)
    (hN : X.N.Nodup) (hc : Names X x c) (tk : Takes X W) (hW : W = fun cls d σ H => E σ cls d H) (hsub : ∀ C b, sub C = some b → PySem.W.exmOne X.K (.ref C) c = some b)
    (hb : ∀ (W : WX) (pn : List (Addr × Obj)) (xe : Value → Shared → Prop), Takes (X.tr pn xe) W → PassesOwn (model X.prog X.w) X.A X.env xe → DSs (X.tr pn xe) (fun σ c d H => W c d σ H) body (tb W) Φb)
    (hsu : ∀ (a : Addr) (oe : Obj) (cls : Value) (d : Option Addr) (pn : List (Addr × Obj)), Zc cls d oe → (∃ vs, oe.data = .fields vs) → DSs (X.suite a ((a, oe) :: pn)) EN (b₀ :: suite) (ts a cls d) (Φs a cls d))
    (hs : X.stack = X.env :: X.outer := by rfl) (hf : X.env.frame = some X.env.locals := by rfl) (hi : X.N[i]? = some n := by rfl) (hln : X.env.kindOf n = some .local := by rfl) :
    DS X E (.Try body [.ExceptHandler (some (.Name x np)) (some n) (b₀ :: suite) pos'] [] [] pos) (fun D σ H => tb (wAs X.K c i ts (fun cls d σ H => E σ cls d H) D) D σ H) (tryAs sub i Φb Φs) := by
  subst hW
  refine ⟨ps_try_as hs hf hN hi hln hc tk (fun W pn xe tk po => (hb W pn xe tk po).1) fun a oe cls d pn hz hf => (hsu a oe cls d pn hz hf).1, so_tryAs hsub (fun W => ?_) fun a cls d => ?_⟩
  · obtain ⟨xe, tk', po⟩ := takes_any (X := X) hs hf (W := W)
    exact (hb W [] xe tk' po).2
  · exact (hsu a ⟨cls, d, .fields #[], #[]⟩ cls d [] ⟨rfl, rfl⟩ ⟨_, rfl⟩).2
end
end DL
set_option Elab.async false
set_option linter.all false
set_option maxRecDepth 100000
set_option maxHeartbeats 4000000
set_option autoImplicit false
namespace DL
open PySem PySem.Spec PyProof.Rows L2
/-! ### the caught error: its class and its fields -/
theorem kx_ga {P : Program} {w : World} {A : Around} {E : Value → Shared → Prop} {s : Shared} {K : PySem.W.Frag} {x C : Addr} {ox : Obj} {od : Option Obj} {Q : Option Value → Shared → Prop} (c : ExcC K C) (X : K.In s.heap) (I : PySem.W.InstAt s.heap x ox C od)
    (h : Q (some (.ref C)) { s with toks := s.toks + 1 }) : wpAny (model P w) A (getAttr? (.ref x) "__class__") Q E s := by
  have hf : PySem.W.findObj K C od "__class__" = some (.bind (.builtin "getset_descriptor.__get__") (.builtin "object.__class__")) := by
    obtain ⟨cd, hc, _⟩ := PySem.W.any_some c.hd
    unfold PySem.W.findObj
    simp [hc, c.ha, c.hn, c.ht]
  obtain ⟨hp, g, d, t, os⟩ := s
  have l0 := I.type (M := model P w)
  have l1 := PySem.W.looks_findIn (M := model P w) X c.hg
  have l2 := PySem.W.looks_findIn (M := model P w) X c.hk
  have l3 := PySem.W.looks_find (M := model P w) X I hf
  have sb : PySem.W.Looks (model P w) hp (isInstance (.ref x) (.type "BaseException")) true := l0.andThen (PySem.W.looks_subIn X c.hs)
  have n0 : (false && onTheHeap (Value.builtin "BaseException.__getattribute__")) = false := rfl
  have n1 : (onTheHeap (Value.ref C) && Value.builtin "BaseException.__getattribute__" == Value.builtin "object.__getattribute__") = false := by
    rw [show (Value.builtin "BaseException.__getattribute__" == Value.builtin "object.__getattribute__") = false by decide +kernel, Bool.and_false]
  unfold getAttr? getAttrBy? getAttrBy
  refine wpAny_bind (wpAny_mkText (wpAny_bind (wpAny_attempt (wpAny_holding (wpAny_bind (l0.at (wpAny_bind (l1.at ?_))))))))
  show wpAny _ _ (if (onTheHeap (Value.ref C) && Value.builtin "BaseException.__getattribute__" == Value.builtin "object.__getattribute__") = true then _ else _) _ _ _
  rw [n1, if_neg (by decide)]
  unfold getAttrByItsOwn hookBefore
  refine wpAny_bind ?_
  rw [if_pos (by rfl : onTheHeap (Value.ref C) = true)]
  refine l2.at (wpAny_bind (wpAny_attempt (wpAny_holding ?_)))
  unfold callGetattribute
  rw [n0, if_neg (by decide)]
  unfold boundAndCalled
  rw [PySem.F.excAttr_ValueError.ga.bind (.ref x)]
  refine wpAny_bind (wpAny_pure (wpAny_call (codeAny_call_builtin (args := ⟨[.ref x, .str "__class__" t], []⟩) PySem.F.excAttr_ValueError.ga.plain PySem.F.entry_bexc_ga ?_)))
  refine @PySem.W.check_slot (model P w) _ _ ⟨hp, g, d, t + 1, os⟩ "BaseException.__getattribute__" "BaseException" "__getattribute__" (.ref x) [.str "__class__" t] [] _ (by decide +kernel) (by decide +kernel) sb (PySem.F.args_bexc_ga _ _) ?_
  unfold Builtin.«object.__getattribute__»
  refine wpAny_bind (wpAny_of_eq (a := ((Value.ref x : Value), [Value.str "__class__" t])) (by first | rfl | (simp only [slotArgs]; rfl)) (wpAny_bind (wpAny_pure (wpAny_bind (l0.at (wpAny_bind (l3.at ?_)))))))
  show wpAny _ _ (holding [Value.builtin "object.__class__"] (call (.builtin "getset_descriptor.__get__") [.builtin "object.__class__", .ref x, .ref C]) >>= ret) _ _ _
  refine wpAny_bind (wpAny_holding (wpAny_call (PySem.W.class_get (s := ⟨hp, g, d, t + 1, os⟩) (ox := ox) (od := od) X I c.hm (wpAny_pure ?_))))
  show wpAny _ _ (handedOut (.ref C)) _ _ _
  rw [PySem.W.handedOut_of (v := .ref C) rfl]
  first | exact wpAny_pure (wpAny_pure h) | exact wpAny_pure h | exact wpAny_pure (wpAny_bind (wpAny_pure (wpAny_pure h)))
theorem kitx_any {K : PySem.W.Frag} {x C : Addr} {ox : Obj} (c : ExcC K C) : PySem.W.KitX K (.ref x) (.ref C) (fun h => ∃ od, PySem.W.InstAt h x ox C od) where
  ty := fun _ _ _ ⟨_, I⟩ => I.type
  it := fun M h X _ => by
    obtain ⟨cd, hc, _⟩ := PySem.W.any_some c.hd
    unfold PySem.W.clsIn at hc
    split at hc
    · rename_i ho
      exact (PySem.W.Looks.ld (X _ _ ho)).andThen .now
    · cases hc
  ne := (PySem.W.handS_kitx_exc (x := x) (ox := ox) c.hg c.hk c.hs c.hd c.ha c.hn c.ht c.hm).ne
  ca := fun X ⟨_, I⟩ k => kx_ga c X I k

/-- what isinstance answers for an instance of C -/
def OkX (K : PySem.W.Frag) (C : Addr) : D → Bool → Prop
  | .ty n, b => PySem.W.kitOne K (.ref C) (.type n) = some b
  | .cls c, b => PySem.W.kitOne K (.ref C) (.ref c) = some b
  | .tup l, b => ∃ cs : List Addr, l = cs.map .cls ∧ PySem.W.kitAny K (.ref C) (cs.map .ref) = some b
  | _, _ => False
def rIsX (K : PySem.W.Frag) (C a : Addr) (cls : Value) (d : Option Addr) : List V → Hp → VK → Prop := fun xs H Q => ∃ (dd : Addr) (ws : List (Str × V)) (c : V) (b : Bool), xs = [.ref a, c] ∧ cls = .ref C ∧ d = some dd ∧ H dd = some (.xd ws) ∧
  ((∃ cv, (∀ u, RelV c u → u = cv) ∧ PySem.W.kitOne K (.ref C) cv = some b) ∨ ∃ (tp : Addr) (cs : List Addr), c = .ref tp ∧ SqT K H tp (cs.map V.ref) ∧ PySem.W.kitAny K (.ref C) (cs.map .ref) = some b) ∧ Q (.bl b) H
theorem vals_refs : ∀ {cs : List Addr} {us : List Value}, Vals (cs.map V.ref) us → us = cs.map .ref
  | [], _, .nil => rfl
  | c :: cs, _, .cons a r => by
    rw [show _ = Value.ref c from a, vals_refs r]
    rfl
theorem cr_isX {X : Cx} {a C : Addr} {oe : Obj} {pn : List (Addr × Obj)} {cls : Value} {d : Option Addr} (c : ExcC X.K C) (hz : Zc cls d oe) (hf : ∃ vs, oe.data = .fields vs) : CallR (X.suite a ((a, oe) :: pn)) (.builtin "isinstance") (rIsX X.K C a cls d) := by
  intro pins s σ H xs us Q I r h
  obtain ⟨dd, ws, y, b, rfl, rfl, rfl, hd, hk, q⟩ := h
  cases r with
  | cons rx rr =>
    cases rr with
    | cons rt rr =>
      cases rr
      cases rx
      obtain ⟨hget, _⟩ := I.pin (a, oe) (List.mem_append.mpr (.inl List.mem_cons_self))
      obtain ⟨vs, hv⟩ := hf
      obtain ⟨mA, hns, _⟩ : ObjOk _ _ _ _ dd (.xd ws) := I.hok dd _ hd
      obtain ⟨od, ho, _⟩ := lookIn_ns hns
      have J : ∃ od, PySem.W.InstAt s.heap a oe C od := by
        refine ⟨some od, hget, hz.1, ?_, ?_⟩
        · unfold PySem.W.notCls
          rw [hv]
        · rw [hz.2]; exact ho
      have fin : ∀ tk, EP (X.suite a ((a, oe) :: pn)) pins σ Q (.bool b) { s with toks := tk } := fun tk => ⟨.bl b, H, I.kept (t' := tk) fun _ _ z => z, rfl, q⟩
      rcases hk with ⟨cv, hcv, e⟩ | ⟨tp, cs, rfl, ht, e⟩
      · have ec := hcv _ rt
        subst ec
        exact PySem.W.kia_one (kitx_any c) I.kIn J e (fun z => nomatch z) fin
      · cases rt
        obtain ⟨its, rv, ⟨o, hto, htc, n, htd⟩, _⟩ := I.tuple ht
        have ei := vals_refs rv
        subst ei
        obtain ⟨oc, odd, oda, osl⟩ := o
        dsimp only at htc htd
        subst htc htd
        exact PySem.W.kia_tup (kitx_any c) I.kIn J hto e (fun z => nomatch z) fin
open Classical in
noncomputable def fIsX (C a : Addr) (cls : Value) (d : Option Addr) (x : D) (b : Bool) (_ : Sto) : List D → Option D
  | [.exn a' dd fs, y] => if a' = a ∧ cls = .ref C ∧ d = some dd ∧ y = x then some (.bl b) else none
  | _ => none
theorem rp_refs {η : List Addr} {H : Hp} : ∀ {cs : List Addr} {xs : List V}, RpL η H (cs.map D.cls) xs → xs = cs.map V.ref
  | [], _, r => r
  | c :: cs, _, ⟨v, vs, e, rv, rl⟩ => by rw [e, show v = V.ref c from rv, rp_refs rl]; rfl
theorem v_isX {K : PySem.W.Frag} {C a : Addr} {cls : Value} {d : Option Addr} {x : D} {b : Bool} (hx : OkX K C x b) : VN (rIsX K C a cls d) (fIsX C a cls d x b) := fun E η B S H ds vs w r => by
  unfold fIsX
  split
  · rename_i a' dd fs y
    split
    · rename_i hh
      obtain ⟨rfl, rfl, rfl, rfl⟩ := hh
      obtain ⟨v, r2, rfl, ⟨ws, rfl, hd, _⟩, u, r3, rfl, ru, rfl⟩ := r
      intro Q k
      refine ⟨dd, ws, u, b, rfl, rfl, rfl, (cold_of hd).1, ?_, k _ _ _ _ w.refl rfl⟩
      cases y with
      | ty n => cases ru; exact .inl ⟨.type n, fun _ z => z, hx⟩
      | cls c => cases ru; exact .inl ⟨.ref c, fun _ z => z, hx⟩
      | tup l =>
        obtain ⟨cs, rfl, hk⟩ := hx
        obtain ⟨p, xs, rfl, hp, rl⟩ := ru
        rw [rp_refs rl] at hp
        exact .inr ⟨p, cs, rfl, .inl (.inl (cold_of hp).1), hk⟩
      | _ => exact hx.elim
    · trivial
  · trivial
section
variable {X : Cx} {a C : Addr} {oe : Obj} {pn : List (Addr × Obj)} {cls : Value} {d : Option Addr} {E : EK} {e : Expr} {te : TE} {F : Env → Sto → Res D}
theorem RpF.look {η : List Addr} {H : Hp} : ∀ {fs : List (Str × D)} {ws : List (Str × V)} {n : Str} {y : D}, RpF η H fs ws → fs.lookup n = some y → ∃ v, ws.lookup n = some v ∧ Rp η H y v
  | [], _, _, _, _, h => by cases h
  | (k, x) :: fs, _, n, y, ⟨v, vs, e, rv, rl⟩, h => by
    subst e
    rw [List.lookup_cons] at h ⊢
    cases hk : n == k <;> rw [hk] at h
    · exact RpF.look rl h
    · cases h; exact ⟨v, rfl, rv⟩
open Classical in
@[simp] noncomputable def fldX (C a : Addr) (cls : Value) (d : Option Addr) (n : Str) (F : Env → Sto → Res D) : Env → Sto → Res D := fun ρ S => (F ρ S).bind fun v S1 => match v with
  | .exn a' dd fs => if a' = a ∧ cls = .ref C ∧ d = some dd then lift (fs.lookup n) S1 else .bad
  | _ => .bad
theorem de_xf {pos : Pos} {n : Str} (T : XfC X.K C) (hno : PySem.W.findIn X.K (.ref C) n = some none) (hz : Zc cls d oe) (hf : ∃ vs, oe.data = .fields vs) (he : DE (X.suite a ((a, oe) :: pn)) E e te F) (hb : attributeBase e n X.env (eval e X.env) = eval e X.env := by rfl) :
    DE (X.suite a ((a, oe) :: pn)) E (.Attribute e n pos) (tXf a cls d C n te) (fldX C a cls d n F) := by
  refine ⟨pe_xf T hno hz hf he.1 hb, fun η B S σ ρ H w s => ?_⟩
  refine Ev.bind (T := te σ H) (T' := fun x H1 Q => x = .ref a ∧ cls = .ref C ∧ ∃ (dd : Addr) (fs : List (Str × V)) (v : V), d = some dd ∧ H1 dd = some (.xd fs) ∧ fs.lookup n = some v ∧ Q v H1) (he.2 η B S σ ρ H w s) fun y S1 v η1 B1 H1 n1 r1 => ?_
  cases y <;> first | trivial | skip
  rename_i a' dd fs
  dsimp only
  split
  · rename_i hh
    obtain ⟨rfl, rfl, rfl⟩ := hh
    obtain ⟨ws, rfl, hd, rf⟩ := r1
    cases hl : fs.lookup n with
    | none => trivial
    | some y =>
      obtain ⟨v, hv, rv⟩ := RpF.look rf hl
      exact fun Q k => ⟨rfl, rfl, dd, ws, v, rfl, (cold_of hd).1, hv, k v η1 B1 H1 n1.wd.refl rv⟩
  · trivial
end
def subOf (C0 : Addr) : Addr → Option Bool := fun C => if C = C0 then some true else none
@[simp] theorem subOf_self (C : Addr) : subOf C C = some true := if_pos rfl
theorem subOf_ok {K : PySem.W.Frag} {C0 : Addr} (h : PySem.W.exmOne K (.ref C0) (.ref C0) = some true) : ∀ C b, subOf C0 C = some b → PySem.W.exmOne K (.ref C) (.ref C0) = some b := fun C b e => by
  unfold subOf at e
  split at e
  · rename_i z
    cases e
    rw [z]; exact h
  · cases e
theorem tryAs_bad {sub : Addr → Option Bool} {i : Nat} {Φb : Env → Sto → Flow} {Φs : Addr → Value → Option Addr → Env → Sto → Flow} {ρ : Env} {S : Sto} (h : Φb ρ S = .bad) : tryAs sub i Φb Φs ρ S = .bad := by
  unfold tryAs
  rw [h]
end DL
set_option Elab.async false
set_option linter.all false
set_option maxRecDepth 100000
set_option maxHeartbeats 4000000
set_option autoImplicit false
namespace DL
open PySem PySem.Spec PyProof.Rows L2
/-! ### repr of data -/
def rRepr (K : PySem.W.Frag) : List V → Hp → VK → Prop := fun xs H Q => ∃ x d, xs = [x] ∧ Dp K H x d ∧ d.showable = true ∧ d.hasDict = false ∧ d.depth ≤ 60 ∧ d.shown.length ≤ sizeLine ∧ Q (.str d.shown) H
theorem cr_repr {X : Cx} {K : PySem.W.Frag} (hG : X.A.guards = some []) (hu : X.A.units + 64 < cLine) (hK : X.K = K := by rfl) : CallR X (.builtin "repr") (rRepr K) := by
  subst hK
  intro pins s σ H xs us Q I r h
  obtain ⟨x, d, rfl, hd, hs, hn, hp, hz, q⟩ := h
  obtain ⟨u, rfl, ru⟩ := vals1 r
  have hd' := hd
  cases hd with
  | non => cases ru; exact PySem.P.repr_of_none ⟨.str _, H, I.tok _, ⟨_, rfl⟩, q⟩
  | bl b => cases ru; exact PySem.P.repr_of_bool ⟨.str _, H, I.tok _, ⟨_, rfl⟩, q⟩
  | int i => obtain ⟨t, rfl⟩ := ru; exact PySem.P.repr_of_int (by simpa [PyData.showable] using hs) ⟨.str _, H, I.tok _, ⟨_, rfl⟩, q⟩
  | str x => obtain ⟨t, rfl⟩ := ru; exact PySem.P.repr_of_str ⟨.str _, H, I.tok _, ⟨_, rfl⟩, q⟩ hz
  | lst h1 h2 =>
    cases ru
    obtain ⟨as, rd⟩ := Dp.reads I _ _ (Value.ref _) hd' rfl
    exact repr_of_reads' rd hs (fun z => by rw [hn] at z; cases z) hG (by omega) (fun _ _ z => z) (fun h' u tk hk => ⟨.str _, H, I.kept hk, ⟨_, rfl⟩, q⟩) hz
  | tup h1 h2 =>
    cases ru
    obtain ⟨as, rd⟩ := Dp.reads I _ _ (Value.ref _) hd' rfl
    exact repr_of_reads' rd hs (fun z => by rw [hn] at z; cases z) hG (by omega) (fun _ _ z => z) (fun h' u tk hk => ⟨.str _, H, I.kept hk, ⟨_, rfl⟩, q⟩) hz
def okShow (p : PyData) : Bool := p.showable && !p.hasDict && decide (p.depth ≤ 60) && decide (p.shown.length ≤ sizeLine)
def fRepr (S : Sto) : List D → Option D
  | [x] => (toPy (cl S x)).bind fun p => if okShow p = true then some (.str p.shown) else none
  | _ => none
theorem v_repr (K : PySem.W.Frag) : VN (rRepr K) fRepr := fun E η B S H ds vs w r => by
  unfold fRepr
  split
  · rename_i x
    obtain ⟨v, r2, rfl, rx, rfl⟩ := r
    cases e : toPy (cl S x) with
    | none => trivial
    | some p =>
      show EvD η B E _ H (lift (if okShow p = true then some (.str p.shown) else none) S)
      by_cases ho : okShow p = true
      · rw [if_pos ho]
        unfold okShow at ho
        simp only [Bool.and_eq_true, decide_eq_true_eq, Bool.not_eq_true'] at ho
        obtain ⟨⟨⟨h1, h2⟩, h3⟩, h4⟩ := ho
        exact fun Q k => ⟨v, p, rfl, rp_dpS w rx e, h1, h2, h3, h4, k _ _ _ _ w.refl rfl⟩
      · rw [if_neg ho]; trivial
  · trivial
/-! ### x in l, data of any depth -/
theorem or_in {X : Cx} {K : PySem.W.Frag} (hu : X.A.units + 65 < cLine) (hK : X.K = K := by rfl) : OpR X (compareOp .In) (rInD K) := by subst hK; exact op_inD hu
theorem or_notin {X : Cx} {K : PySem.W.Frag} (hu : X.A.units + 65 < cLine) (hK : X.K = K := by rfl) : OpR X (compareOp .NotIn) (rNotInD K) := by subst hK; exact op_notInD hu
def inD (x : D) : D → Option Bool
  | .lst l => (toPy x).bind fun p => (toPys l).bind fun ps => if SeqAt.shaped p = true ∧ SeqAt.shaped (.list ps) = true then some (ps.any fun z => PyData.eqv z p) else none
  | _ => none
def opIn (S : Sto) (x y : D) : Option D := (inD (cl S x) (cl S y)).map .bl
def opNotIn (S : Sto) (x y : D) : Option D := (inD (cl S x) (cl S y)).map fun b => .bl (!b)
theorem inD_some {x y : D} {b : Bool} (h : inD x y = some b) : ∃ l p ps, y = .lst l ∧ toPy x = some p ∧ toPys l = some ps ∧ SeqAt.shaped p = true ∧ SeqAt.shaped (.list ps) = true ∧ b = ps.any fun z => PyData.eqv z p := by
  cases y <;> first | (cases h; done) | skip
  rename_i l
  have h' : ((toPy x).bind fun p => (toPys l).bind fun ps => if SeqAt.shaped p = true ∧ SeqAt.shaped (.list ps) = true then some (ps.any fun z => PyData.eqv z p) else none) = some b := h
  obtain ⟨p, h1, h'⟩ := Option.bind_eq_some_iff.mp h'
  obtain ⟨ps, h2, h'⟩ := Option.bind_eq_some_iff.mp h'
  split at h'
  · rename_i hh
    cases h'
    exact ⟨l, p, ps, rfl, h1, h2, hh.1, hh.2, rfl⟩
  · cases h'
theorem v_in (K : PySem.W.Frag) : V2 (rInD K) opIn := fun E η B S H x y u v w rx ry => by
  unfold opIn
  cases e : inD (cl S x) (cl S y) with
  | none => trivial
  | some b =>
    obtain ⟨l, p, ps, hy, h1, h2, s1, s2, rfl⟩ := inD_some e
    have hl : toPy (cl S y) = some (.list ps) := by rw [hy]; show (toPys l).map PyData.list = _; rw [h2]; rfl
    exact fun Q k => ⟨p, ps, rp_dpS w rx h1, rp_dpS w ry hl, s1, s2, k _ _ _ _ w.refl rfl⟩
theorem v_notin (K : PySem.W.Frag) : V2 (rNotInD K) opNotIn := fun E η B S H x y u v w rx ry => by
  unfold opNotIn
  cases e : inD (cl S x) (cl S y) with
  | none => trivial
  | some b =>
    obtain ⟨l, p, ps, hy, h1, h2, s1, s2, rfl⟩ := inD_some e
    have hl : toPy (cl S y) = some (.list ps) := by rw [hy]; show (toPys l).map PyData.list = _; rw [h2]; rfl
    exact fun Q k => ⟨p, ps, rp_dpS w rx h1, rp_dpS w ry hl, s1, s2, k _ _ _ _ w.refl rfl⟩
/-! ### a def that is called where no repr is under way -/
def FnG (P : Program) (w : World) (K : PySem.W.Frag) (mg : Str → Option Value) (base : Heap) (CX : CXT) (k : Nat) (f : Addr) (sp : Sp) : Prop :=
  ∀ (A : Around) (outer : List PySem.Env) (s : Shared) (H : Hp) (us : List Value) (vs : List V) (Q : VK) (E : XK), Room k A → A.guards = some [] → Env0 P w K mg base A outer s H → Vals vs us → sp vs H Q E →
    codeAny (model P w) A (.call (.ref f) ⟨us, []⟩) (CR CX outer P w H s Q E) s
section
variable {P : Program} {w : World} {K : PySem.W.Frag} {mg : Str → Option Value} {base : Heap}
theorem fnd_g {x qual : Str} {st : Stmt} {f : Addr} {fd : FuncData} {N ps : List Str} {k : Nat} (m : List D → Sto → Res D) (F : Fun K x qual st f fd) (Sc : FnScope N ps (defScope st)) (hb : Binds K fd ps [])
    (hbody : ∀ (cdv : Value) (A : Around) (outer : List PySem.Env) (s : Shared) (H : Hp) (E : XK), Room k (A.deeper (envOfC qual (defScope st) s.heap.objs.size f cdv)) → A.guards = some [] →
      ∃ t Φ, DSs (cxOf (L2.CX P w) P w K mg base N qual (defScope st) f cdv A outer s H E) (fun _ => E) (defBody st) t Φ ∧ ∀ ds S, ds.length = ps.length → Imp (m ds S) (runF N Φ ds S)) : FnG P w K mg base (L2.CX P w) (k + 1) f (spF ps.length m) := by
  intro A outer s H us vs Q E hr hG e0 r h
  obtain ⟨oc, od, kV, doc, pm, an, cdv, ct, osl, rfl, lk, hcd⟩ := F.ex
  obtain ⟨η, B, S, ds, hl, wd, rl, q⟩ := h
  have hvl : vs.length = ps.length := by rw [rl.length, hl]
  have hul : us.length = ps.length := by rw [← r.length]; exact hvl
  refine StX.run_bnd lk hcd Sc hr e0 (G := fun xs H2 => vs = xs ∧ H = H2) (fun A' Ex Q' hq => ?_) fun s2 H2 xs ⟨ex, eH⟩ hr' => ?_
  · have bt := hb s us (e0.mod.kin.keeps fun b o e => (e0.bs b o e).1) (by rw [List.append_nil]; exact hul)
    rw [List.append_nil] at bt
    exact bt _ _ _ _ (hq s H vs us e0 Un.refl rfl (fun _ _ z => z) r hvl ⟨rfl, rfl⟩)
  · subst ex eH
    obtain ⟨t, Φ, ⟨pss, so⟩, im⟩ := hbody cdv A outer s2 _ E hr' hG
    exact ⟨t, pss, sv_run so wd rl (im ds S hl) q⟩
theorem FnG.mono {CX : CXT} {j k : Nat} {f : Addr} {sp : Sp} (F : FnG P w K mg base CX j f sp) (h : j ≤ k) : FnG P w K mg base CX k f sp := fun A outer s H us vs Q E hr => F A outer s H us vs Q E (hr.mono h)
end
section
variable {X : Cx} {E : EK} {e : Expr} {es : List Expr} {pos p : Pos} {tas : TA} {Fs : Env → Sto → Res (List D)} {CX : CXT} {k n : Nat} {m : List D → Sto → Res D} {f : Addr} {x : Str}
theorem de_callG (G : FnG X.prog X.w X.K X.mg X.base CX k f (spF n m)) (hr : Room k X.A) (hG : X.A.guards = some []) (hm : X.mg x = some (.ref f)) (hk : PySem.W.keepIn X.K (.ref f) = true)
    (hx : PassS CX X E) (ha : DA X E (e :: es) tas Fs) (hg : Gl X x := by rfl) (hdb : (x == ("__debug__" : Str)) = false := by decide) (he : starEach (e :: es) X.env = (false, eval e X.env) :: starEach es X.env := by rfl) (hpl : (backTo pos (starEach es X.env)).any (·.1) = false := by rfl) :
    DE X E (.Call (.Name x p) (e :: es) [] pos) (tCallS' (spF n m) E tas) (callF n m Fs) := by
  refine ⟨⟨fun pins s σ H Q I h => ?_⟩, so_call ha.2⟩
  refine wpAny_Call_Name_kw (ld_glob I hg hm ?_ hdb)
  refine PySem.W.callWith_K (h₀ := X.base) I.ok.mod.kin hk (thn (ha.1.run pos pins s σ H _ I h) fun us s1 ⟨vs, H1, I1, r, q⟩ => ⟨I1.kIn, ?_⟩) he hpl
  refine wpAny_call (codeAny_mono (G X.A X.stack s1 H1 us vs Q (E σ) hr hG I1.env0 r q) fun r s' hq => ?_)
  cases r with
  | error e => exact hx pins σ H1 s1 e s' I1 hq
  | ok fl =>
    cases fl with
    | ret u => exact I1.after hq
    | next => exact False.elim hq
    | brk => exact False.elim hq
    | cont => exact False.elim hq
end
end DL
set_option Elab.async false
set_option linter.all false
set_option maxRecDepth 100000
set_option maxHeartbeats 4000000
set_option autoImplicit false
namespace DL
open PySem PySem.Spec PyProof.Rows L2
/-! ### the end: the law's def is called with the script, no repr under way -/
/-- no list stands in the written part -/
def noL (K : PySem.W.Frag) : Bool := K.all fun q => match q.2.cls with
  | .type n => n != "list"
  | _ => true
theorem noL_look : ∀ {K : PySem.W.Frag} {a : Addr} {o : Obj}, noL K = true → K.lookup a = some o → o.cls ≠ .type "list"
  | [], _, _, _, h => by cases h
  | (b, u) :: K, a, o, hn, h => by
    unfold noL at hn
    rw [List.all_cons, Bool.and_eq_true] at hn
    rw [List.lookup_cons] at h
    cases hb : a == b <;> rw [hb] at h
    · exact noL_look (K := K) hn.2 h
    · cases h
      intro e
      have q := hn.1
      rw [e] at q
      exact absurd q (by decide)
def scriptH (a : Addr) (ob : Obj) (ns : List Int) : Hp := fun b => if b = a then some (.frz ob (.lst (ns.map V.int))) else none
theorem end_call {P : Program} {w : World} {K : PySem.W.Frag} {mg mb : Str → Option Value} {k : Nat} {fa a : Addr} {m : List D → Sto → Res D} {t : Shared} {vs : List Value} {ns : List Int} (nK : noL K = true)
    (KX : K.In t.heap) (G1 : t.heap.Ns mainGlobals mg) (G2 : t.heap.Ns builtinsNs mb) (G3 : ∀ x : Str, x ≠ "__name__" → mb x = bootBuiltins x) (G4 : t.heap.NoLimit) (G5 : t.gens = #[])
    (ha : t.heap.get? a = some { cls := .type "list", data := .seq vs.toArray }) (hi : IntsAre vs ns) (hl : ns.length ≤ sizeLine) (room : Room k callerA)
    (F : ∀ bs : Heap, K.In bs → bs.Ns mainGlobals mg → FnG P w K mg bs (L2.CX P w) k fa (spF 1 m)) (hm : ∃ S', m [.scr ns] [] = .ok (.bl true) S') :
    codeAny (model P w) callerA (.call (.ref fa) ⟨[.ref a], []⟩) (fun r u => r = .ok (.ret (.bool true)) ∧ OldK t.heap u.heap ∧ u.os = t.os ∧ AllBare u.gens) t := by
  obtain ⟨ob, hob⟩ : ∃ ob : Obj, ob = { cls := .type "list", data := .seq vs.toArray } := ⟨_, rfl⟩
  rw [← hob] at ha
  have ocls : ob.cls = .type "list" := by rw [hob]
  have hKa : K.lookup a = none := by
    cases q : K.lookup a with
    | none => rfl
    | some o =>
      have e := KX a o q
      rw [ha] at e
      cases e
      exact absurd ocls (noL_look nK q)
  have at1 : scriptH a ob ns a = some (.frz ob (.lst (ns.map V.int))) := if_pos rfl
  have at2 : ∀ b, b ≠ a → scriptH a ob ns b = none := fun b e => if_neg e
  have nd : ∀ {b : Addr} {o : Obj} {es : Array DictEntry} {ep : Nat}, t.heap.get? b = some o → o.data = .dict es ep → b ≠ a := fun {b o es ep} e d z => by
    subst z
    rw [ha] at e
    cases e
    rw [hob] at d
    cases d
  have keepNs : ∀ {b : Addr} {f : Str → Option Value}, t.heap.Ns b f → (hidT t.heap (scriptH a ob ns)).Ns b f := fun {b f} ⟨o, es, ep, e, d, r⟩ => ⟨o, es, ep, hidT_get e (at2 _ (nd e d)), d, r⟩
  have kIn : K.In (hidT t.heap (scriptH a ob ns)) := fun b o e => hidT_get (KX b o e) (at2 b fun z => by
    rw [z, hKa] at e
    cases e)
  have hokS : HOk P w (scriptH a ob ns) t.heap := fun b u z => by
    by_cases e : b = a
    · subst e
      rw [at1] at z
      cases z
      refine ⟨ha, by rw [List.length_map]; exact hl, vs, ?_⟩
      rw [ha, hob]
      exact ⟨_, vals_ints hi, rfl⟩
    · rw [at2 b e] at z
      cases z
  have e0 : Env0 P w K mg (hidT t.heap (scriptH a ob ns)) callerA [] t (scriptH a ob ns) := by
    refine ⟨rfl, ⟨kIn, keepNs G1, ⟨mb, keepNs G2, G3⟩, ?_⟩, fun b o e => of_hidT e, Nat.le_of_eq (hidT_size _ _), trivial, fun b hb => ?_, hokS, .of_eq G5⟩
    · obtain ⟨mc, h1, h2⟩ := G4
      exact ⟨mc, keepNs h1, h2⟩
    · exact absurd (show b ∈ ([] : List Addr) from hb) (by simp)
  have pr : spF 1 m [.ref a] (scriptH a ob ns) (fun v _ => v = .bl true) (fun _ _ _ => False) := by
    refine ⟨[], [], [], [.scr ns], rfl, ⟨nofun, nofun, List.nodup_nil, rfl, fun i b o h => ?_⟩, ⟨_, _, rfl, ⟨a, ob, rfl, cold_in at1 (by simp)⟩, rfl⟩, ?_⟩
    · simp at h
    · obtain ⟨S', h⟩ := hm
      rw [h]
      exact fun v _ _ _ _ r => r
  refine codeAny_mono (F _ kIn (keepNs G1) callerA [] t (scriptH a ob ns) [.ref a] [.ref a] _ _ room rfl e0 (.cons rfl .nil) pr) fun r u h => ?_
  cases r with
  | error e =>
    obtain ⟨_, _, _, _, _, _, _, _, _, _, _, _, z⟩ := h
    exact z.elim
  | ok fl =>
    cases fl with
    | next => exact False.elim h
    | brk => exact False.elim h
    | cont => exact False.elim h
    | ret y =>
      obtain ⟨v, H', hos, bare, un, hok', rv, q⟩ := h
      have q' : v = .bl true := q
      subst q'
      obtain rfl : y = Value.bool true := rv
      refine ⟨rfl, OldK.of_keep fun b o e => ?_, hos, bare⟩
      by_cases z : b = a
      · subst z
        have z2 := un.frzs b _ _ at1
        obtain ⟨e2, _⟩ := hok' b _ z2
        rw [e] at ha
        cases ha
        exact e2
      · exact un.keep b o e (at2 b z) (fun y => absurd (show b ∈ ([] : List Addr) from y) (by simp)) (by simp)
theorem end_walk {l : PySem.W.OpenLaw} {n k : Nat} {q : Program} {loose : List Str} {XP : (Str → Option Value) → Heap → Prop} {YP : World → Heap → Prop} {d : DefRec} {K : Params → PySem.W.Frag}
    (hn : l.most = some n) (hn2 : n ≤ sizeLine) (hdf : d.params.defaults = []) (room : Room k callerA) (hY : ∀ (w : World) (h : Heap), YP w h → (K w.params).In h) (nK : ∀ p, noL (K p) = true)
    (F : ∀ (w : World) (mg : Str → Option Value) (fa : Addr) (h : Heap), (K w.params).In h → h.Ns mainGlobals mg → mg d.name = some (.ref fa) →
      ∃ m : List D → Sto → Res D, (∀ bs : Heap, (K w.params).In bs → bs.Ns mainGlobals mg → FnG l.prog w (K w.params) mg bs (L2.CX l.prog w) k fa (spF 1 m)) ∧ ∀ ns : List Int, ns.length ≤ n → ∃ S', m [.scr ns] [] = .ok (.bl true) S') :
    PySem.W.WalkO q loose XP YP l.row.toRowW d [] (fun f vs => PySem.call f vs) := by
  refine Att.attach_call hn hdf fun w s₀ t mg mb fa o pm cd doc a vs ns G Y ho hd hcd hmg hobj hints hlen hg => ?_
  obtain ⟨m, hF, hm⟩ := F w mg fa _ (hY w _ Y) G.T.g hmg
  exact end_call (nK _) (hY w _ Y) G.T.g G.T.b G.T.builtins G.T.nolimit hg hobj hints (Nat.le_trans hlen hn2) room hF (hm ns hlen)
end DL
set_option Elab.async false
set_option linter.all false
set_option maxRecDepth 100000
set_option maxHeartbeats 4000000
set_option autoImplicit false
namespace DL
open PySem PySem.Spec PyProof.Rows L2
/-! ### hot lists made, grown -/
section
variable {X : Cx} {E : EK} {e o : Expr} {es : List Expr} {pos p apos : Pos} {te to : TE} {tas : TA} {Fs : Env → Sto → Res (List D)} {F Fo : Env → Sto → Res D}
@[simp] def mkH (ds : List D) (S : Sto) : Res D := if ds.length ≤ 100000 then .ok (.hot S.length) (S ++ [.lst ds]) else .bad
@[simp] def dispH (F : Env → Sto → Res (List D)) : Env → Sto → Res D := fun ρ S => (F ρ S).bind fun ds S1 => mkH ds S1
theorem de_lstH (h : DA X E es tas Fs) : DE X E (.List es pos) (tLst tas) (dispH Fs) := by
  obtain ⟨p, q⟩ := h
  refine ⟨pe_lst p, fun η B S σ ρ H w s => Ev.bind (T := tas σ H) (T' := fun (xs : List V) (H1 : Hp) (Q : VK) => xs.length ≤ sizeLine ∧ ∀ p, H1 p = none → Q (V.ref p) (upd H1 p (.lst xs))) (q η B S σ ρ H w s) fun ds S1 xs η1 B1 H1 n1 r1 => ?_⟩
  unfold mkH
  split
  · rename_i c
    exact fun Q k => ⟨by rw [r1.length]; exact size_ok c, fun p hp => k _ _ _ _ (n1.wd.alloc (u := .lst _) hp ⟨xs, upd_same, ((n1.wd.hide hp).rpL r1).up (up_snoc _ _)⟩) ⟨p, rfl, n1.wd.at_new⟩⟩
  · trivial
@[simp] def fAppend (Fo F : Env → Sto → Res D) : Env → Sto → Res D := fun ρ S => (Fo ρ S).bind fun x S1 => match x with
  | .hot i => (match hotL S1 i with
    | some _ => (F ρ S1).bind fun d S2 => (match hotL S2 i with
      | some l => if l.length < 100000 then .ok .non (S2.set i (.lst (l ++ [d]))) else .bad
      | none => .bad)
    | none => .bad)
  | _ => .bad
theorem de_append {K : PySem.W.Frag} (ho : DE X E o to Fo) (he : DE X E e te F) (hK : X.K = K := by rfl) (hbase : attributeBase o "append" X.env (eval o X.env) = eval o X.env := by rfl)
    (hfew : ((backTo pos (starEach [e] X.env)).all (fun x => !x.1) && (backToKw pos (keywordEach [] X.env)).all (fun x => x.1.isSome) && decide ([e].length + ([] : List Keyword).length + (if ([] : List Keyword).isEmpty then 0 else 1) < 30)) = true := by rfl)
    (hline : (apos.endLine == pos.line) = true := by rfl) (hs : starEach [e] X.env = (false, eval e X.env) :: starEach [] X.env := by rfl) (hpl : (backTo pos (starEach [] X.env)).any (·.1) = false := by rfl) :
    DE X E (.Call (.Attribute o "append" apos) [e] [] pos) (tBM K "list" rAppend to (tCons te tNil)) (fAppend Fo F) := by
  subst hK
  refine ⟨pe_bm PySem.F.plainAttrs_list PySem.F.slot_list_append PySem.F.type_list_append mt_append ho.1 (pa_cons he.1 pa_nil hs) hbase hfew hline hs hpl, fun η B S σ ρ H w s => ?_⟩
  refine Ev.bind (T := to σ H) (T' := fun x H1 Q => tyV X.K "list" x H1 ∧ te σ H1 fun y H2 => rAppend x [y] H2 Q) (ho.2 η B S σ ρ H w s) fun x S1 u η1 B1 H1 n1 r1 => ?_
  cases x <;> first | trivial | skip
  rename_i i
  dsimp only
  cases h0 : hotL S1 i with
  | none => trivial
  | some l0 =>
  obtain ⟨q, rfl, hq⟩ := r1
  obtain ⟨xs0, hx0, _⟩ := n1.wd.hot i q _ hq (hotL_eq h0)
  have z := Ev.bind (R := fun η Hc d v => Rp η Hc d v) (R' := fun η Hc d v => Rp η Hc d v) (T := te σ H1) (T' := fun y H2 Q => rAppend (V.ref q) [y] H2 Q) (k := fun d S2 => (match hotL S2 i with
      | some l => if l.length < 100000 then Res.ok D.non (S2.set i (.lst (l ++ [d]))) else .bad
      | none => .bad)) (he.2 η1 B1 S1 σ ρ H1 n1.wd (n1.sl s)) fun y S2 v η2 B2 H2 n2 r2 => by
    split
    · rename_i l hl
      split
      · rename_i c
        obtain ⟨xs, hx, rl⟩ := n2.wd.hot i q _ (n2.up _ _ hq) (hotL_eq hl)
        exact fun Q k => ⟨q, xs, v, rfl, rfl, hx, by rw [rl.length]; exact Nat.lt_of_lt_of_le c (by decide), k _ _ _ _ (n2.wd.setHot (n2.up _ _ hq) (u := .lst _) ⟨_, upd_same, rl.snoc r2⟩) rfl⟩
      · trivial
    · trivial
  revert z
  generalize (Res.bind (F ρ S1) fun d S2 => (match hotL S2 i with
      | some l => if l.length < 100000 then Res.ok D.non (S2.set i (.lst (l ++ [d]))) else .bad
      | none => .bad)) = rr
  intro z
  cases rr with
  | bad => trivial
  | ok d S' => exact fun Q k => ⟨.inl ⟨rfl, _, .inl (.inl hx0)⟩, z Q k⟩
  | exc C fs S' => exact fun Q k => ⟨.inl ⟨rfl, _, .inl (.inl hx0)⟩, z Q k⟩
end
/-! ### what is new and hot becomes cold -/
mutual
/-- hot i by g i -/
def sbD (g : Nat → Option D) : D → Option D
  | .hot i => g i
  | .lst l => (sbL g l).map .lst
  | .tup l => (sbL g l).map .tup
  | .dic l => (sbK g l).map .dic
  | .dit l => (sbT g l).map .dit
  | .obj C l => (sbF g l).map (.obj C)
  | .exn a dd l => (sbF g l).map (.exn a dd)
  | .non => some .non
  | .bl b => some (.bl b)
  | .int i => some (.int i)
  | .str s => some (.str s)
  | .cls C => some (.cls C)
  | .ty n => some (.ty n)
  | .scr l => some (.scr l)
def sbL (g : Nat → Option D) : List D → Option (List D)
  | [] => some []
  | d :: ds => (sbD g d).bind fun e => (sbL g ds).map (e :: ·)
def sbK (g : Nat → Option D) : List (Key × D) → Option (List (Key × D))
  | [] => some []
  | (k, d) :: ds => (sbD g d).bind fun e => (sbK g ds).map ((k, e) :: ·)
def sbT (g : Nat → Option D) : List (List Key × D) → Option (List (List Key × D))
  | [] => some []
  | (k, d) :: ds => (sbD g d).bind fun e => (sbT g ds).map ((k, e) :: ·)
def sbF (g : Nat → Option D) : List (Str × D) → Option (List (Str × D))
  | [] => some []
  | (k, d) :: ds => (sbD g d).bind fun e => (sbF g ds).map ((k, e) :: ·)
end
section
variable {η η' : List Addr} {H H' : Hp} {g : Nat → Option D}
mutual
theorem sb_rp (le : Le H H') (hg : ∀ i d v, g i = some d → Rp η H (.hot i) v → Rp η' H' d v) : ∀ (d : D) {d' : D} {v : V}, sbD g d = some d' → Rp η H d v → Rp η' H' d' v
  | .hot i, d', v, h, r => hg i d' v h r
  | .lst l, d', v, h, ⟨a, xs, e, q, r⟩ => by
    obtain ⟨l', h', rfl⟩ := Option.map_eq_some_iff.mp h
    exact ⟨a, xs, e, le _ _ q, sb_rpL le hg l h' r⟩
  | .tup l, d', v, h, ⟨a, xs, e, q, r⟩ => by
    obtain ⟨l', h', rfl⟩ := Option.map_eq_some_iff.mp h
    exact ⟨a, xs, e, le _ _ q, sb_rpL le hg l h' r⟩
  | .dic l, d', v, h, ⟨a, o, xs, e, q, r⟩ => by
    obtain ⟨l', h', rfl⟩ := Option.map_eq_some_iff.mp h
    exact ⟨a, o, xs, e, le _ _ q, sb_rpK le hg l h' r⟩
  | .dit l, d', v, h, ⟨a, o, xs, e, q, r⟩ => by
    obtain ⟨l', h', rfl⟩ := Option.map_eq_some_iff.mp h
    exact ⟨a, o, xs, e, le _ _ q, sb_rpT le hg l h' r⟩
  | .obj C l, d', v, h, ⟨a, dx, xs, e, q, r⟩ => by
    obtain ⟨l', h', rfl⟩ := Option.map_eq_some_iff.mp h
    exact ⟨a, dx, xs, e, le _ _ q, sb_rpF le hg l h' r⟩
  | .exn a dd l, d', v, h, ⟨xs, e, q, r⟩ => by
    obtain ⟨l', h', rfl⟩ := Option.map_eq_some_iff.mp h
    exact ⟨xs, e, le _ _ q, sb_rpF le hg l h' r⟩
  | .non, d', v, h, r => by cases h; exact r
  | .bl _, d', v, h, r => by cases h; exact r
  | .int _, d', v, h, r => by cases h; exact r
  | .str _, d', v, h, r => by cases h; exact r
  | .cls _, d', v, h, r => by cases h; exact r
  | .ty _, d', v, h, r => by cases h; exact r
  | .scr l, d', v, h, r => by cases h; exact Rp.le (η := η) (η' := η) le (.refl η) (.scr l) r
theorem sb_rpL (le : Le H H') (hg : ∀ i d v, g i = some d → Rp η H (.hot i) v → Rp η' H' d v) : ∀ (ds : List D) {ds' : List D} {xs : List V}, sbL g ds = some ds' → RpL η H ds xs → RpL η' H' ds' xs
  | [], ds', xs, h, r => by cases h; exact r
  | d :: ds, ds', xs, h, ⟨v, vs, e, r, t⟩ => by
    obtain ⟨d1, h1, h⟩ := Option.bind_eq_some_iff.mp h
    obtain ⟨ds1, h2, rfl⟩ := Option.map_eq_some_iff.mp h
    exact ⟨v, vs, e, sb_rp le hg d h1 r, sb_rpL le hg ds h2 t⟩
theorem sb_rpK (le : Le H H') (hg : ∀ i d v, g i = some d → Rp η H (.hot i) v → Rp η' H' d v) : ∀ (ds : List (Key × D)) {ds' : List (Key × D)} {xs : List (Key × V)}, sbK g ds = some ds' → RpK η H ds xs → RpK η' H' ds' xs
  | [], ds', xs, h, r => by cases h; exact r
  | (k, d) :: ds, ds', xs, h, ⟨v, vs, e, r, t⟩ => by
    obtain ⟨d1, h1, h⟩ := Option.bind_eq_some_iff.mp h
    obtain ⟨ds1, h2, rfl⟩ := Option.map_eq_some_iff.mp h
    exact ⟨v, vs, e, sb_rp le hg d h1 r, sb_rpK le hg ds h2 t⟩
theorem sb_rpT (le : Le H H') (hg : ∀ i d v, g i = some d → Rp η H (.hot i) v → Rp η' H' d v) : ∀ (ds : List (List Key × D)) {ds' : List (List Key × D)} {xs : List (List Key × V)}, sbT g ds = some ds' → RpT η H ds xs → RpT η' H' ds' xs
  | [], ds', xs, h, r => by cases h; exact r
  | (k, d) :: ds, ds', xs, h, ⟨v, vs, e, r, t⟩ => by
    obtain ⟨d1, h1, h⟩ := Option.bind_eq_some_iff.mp h
    obtain ⟨ds1, h2, rfl⟩ := Option.map_eq_some_iff.mp h
    exact ⟨v, vs, e, sb_rp le hg d h1 r, sb_rpT le hg ds h2 t⟩
theorem sb_rpF (le : Le H H') (hg : ∀ i d v, g i = some d → Rp η H (.hot i) v → Rp η' H' d v) : ∀ (ds : List (Str × D)) {ds' : List (Str × D)} {xs : List (Str × V)}, sbF g ds = some ds' → RpF η H ds xs → RpF η' H' ds' xs
  | [], ds', xs, h, r => by cases h; exact r
  | (k, d) :: ds, ds', xs, h, ⟨v, vs, e, r, t⟩ => by
    obtain ⟨d1, h1, h⟩ := Option.bind_eq_some_iff.mp h
    obtain ⟨ds1, h2, rfl⟩ := Option.map_eq_some_iff.mp h
    exact ⟨v, vs, e, sb_rp le hg d h1 r, sb_rpF le hg ds h2 t⟩
end
end
/-- the hot object i, cold; those below n stay; dk: dicts, too -/
def frzI (dk : Bool) (S : Sto) (n : Nat) : Nat → Nat → Option D
  | 0, _ => none
  | f + 1, i => if i < n then some (.hot i) else match S[i]? with
    | some (.lst l) => (sbL (frzI dk S n f) l).map .lst
    | some (.dic l) => if dk = true then (sbK (frzI dk S n f) l).map .dic else none
    | some (.dit l) => if dk = true then (sbT (frzI dk S n f) l).map .dit else none
    | some (.obj C l) => (sbF (frzI dk S n f) l).map (.obj C)
    | _ => none
def sbO (g : Nat → Option D) : HotO → Option HotO
  | .lst l => (sbL g l).map .lst
  | .dic l => (sbK g l).map .dic
  | .dit l => (sbT g l).map .dit
  | .obj C l => (sbF g l).map (.obj C)
  | .dead => some .dead
def sbS (g : Nat → Option D) : List HotO → Option (List HotO)
  | [] => some []
  | o :: r => (sbO g o).bind fun o' => (sbS g r).map (o' :: ·)
theorem sbS_get {g : Nat → Option D} : ∀ {S S' : List HotO} {i : Nat} {o : HotO}, sbS g S = some S' → S'[i]? = some o → ∃ u, S[i]? = some u ∧ sbO g u = some o
  | [], S', i, o, h, e => by cases h; simp at e
  | u :: r, S', i, o, h, e => by
    obtain ⟨u', h1, h⟩ := Option.bind_eq_some_iff.mp h
    obtain ⟨r', h2, rfl⟩ := Option.map_eq_some_iff.mp h
    cases i with
    | zero => simp at e; subst e; exact ⟨u, rfl, h1⟩
    | succ i => simpa using sbS_get h2 (by simpa using e)
theorem sbS_len {g : Nat → Option D} : ∀ {S S' : List HotO}, sbS g S = some S' → S'.length = S.length
  | [], S', h => by cases h; rfl
  | u :: r, S', h => by
    obtain ⟨u', h1, h⟩ := Option.bind_eq_some_iff.mp h
    obtain ⟨r', h2, rfl⟩ := Option.map_eq_some_iff.mp h
    simp [sbS_len h2]
/-- all hot objects from n on become cold -/
def stlD (dk : Bool) (n : Nat) : Res D → Res D
  | .ok d S => match sbD (frzI dk S n (S.length + 1)) d, sbS (frzI dk S n (S.length + 1)) (S.take n) with
    | some d', some S' => .ok d' S'
    | _, _ => .bad
  | .exc C fs S => match sbF (frzI false S n (S.length + 1)) fs, sbS (frzI false S n (S.length + 1)) (S.take n) with
    | some fs', some S' => .exc C fs' S'
    | _, _ => .bad
  | .bad => .bad
abbrev stl : Nat → Res D → Res D := stlD false
/-- H2 is H1 with the things at as locked -/
def Lkd (as : List Addr) (H1 H2 : Hp) : Prop := (∀ b, b ∉ as → H2 b = H1 b) ∧ ∀ a ∈ as, ∃ od u, H1 a = some u ∧ H2 a = some (.frz od u)
def Lk (H1 : Hp) (P : Hp → Prop) : Prop := ∃ as : List Addr, as.Nodup ∧ (∀ a ∈ as, ∃ u, H1 a = some u ∧ isDc u) ∧ ∀ H2, Lkd as H1 H2 → P H2
theorem isDc_mut {u : HO} (h : isDc u) : Mut (some u) := by
  cases u <;> first | exact h.elim | trivial
theorem Inv.lks {X : Cx} {pins : List (Addr × Obj)} {σ : L2.St} {s : Shared} : ∀ {as : List Addr} {H : Hp}, Inv X pins σ H s → as.Nodup → (∀ a ∈ as, ∃ u, H a = some u ∧ isDc u) → ∃ H2, Lkd as H H2 ∧ Inv X pins σ H2 s
  | [], H, I, _, _ => ⟨H, ⟨fun _ _ => rfl, fun _ h => nomatch h⟩, I⟩
  | a :: as, H, I, hn, h => by
    obtain ⟨u, hu, du⟩ := h a List.mem_cons_self
    obtain ⟨od, I1⟩ := I.lock hu (isDc_mut du)
    have hna : a ∉ as := (List.nodup_cons.mp hn).1
    obtain ⟨H2, ⟨l1, l2⟩, I2⟩ := Inv.lks (as := as) I1 (List.nodup_cons.mp hn).2 fun b hb => by
      obtain ⟨v, hv, dv⟩ := h b (List.mem_cons_of_mem _ hb)
      exact ⟨v, by rw [upd_ne fun (e : b = a) => hna (by rw [← e]; exact hb)]; exact hv, dv⟩
    refine ⟨H2, ⟨fun b hb => ?_, fun b hb => ?_⟩, I2⟩
    · rw [l1 b fun z => hb (List.mem_cons_of_mem _ z), upd_ne fun e => hb (by rw [e]; exact List.mem_cons_self)]
    · rcases List.mem_cons.mp hb with e | hb
      · subst e
        exact ⟨od, u, hu, by rw [l1 b hna, upd_same]⟩
      · obtain ⟨od', v, e1, e2⟩ := l2 b hb
        rw [upd_ne fun (e : b = a) => hna (by rw [← e]; exact hb)] at e1
        exact ⟨od', v, e1, e2⟩
def tLks (t : TE) : TE := fun σ H Q => t σ H fun v H1 => Lk H1 (Q v)
theorem pe_lks {X : Cx} {e : Expr} {t : TE} (h : PE X e t) : PE X e (tLks t) := by
  refine ⟨fun pins s σ H Q I hw => ?_⟩
  refine thn (h.run pins s σ H _ I hw) fun v s1 ⟨x, H1, I1, r, as, hn, hd, q⟩ => ?_
  obtain ⟨H2, l, I2⟩ := Inv.lks I1 hn hd
  exact ⟨x, H2, I2, r, q H2 l⟩
/-- the addresses of new hot dicts -/
def newD (n : Nat) (η : List Addr) (S : Sto) : List Addr := (List.range S.length).filterMap fun i => if i < n then none else match S[i]? with
  | some (.dic _) => η[i]?
  | some (.dit _) => η[i]?
  | _ => none
theorem mem_newD {n : Nat} {η : List Addr} {S : Sto} {a : Addr} (h : a ∈ newD n η S) : ∃ i, n ≤ i ∧ η[i]? = some a ∧ ((∃ l, S[i]? = some (.dic l)) ∨ ∃ l, S[i]? = some (.dit l)) := by
  obtain ⟨i, _, hi⟩ := List.mem_filterMap.mp h
  split at hi
  · cases hi
  · rename_i hn
    split at hi
    · rename_i l q; exact ⟨i, by omega, hi, .inl ⟨l, q⟩⟩
    · rename_i l q; exact ⟨i, by omega, hi, .inr ⟨l, q⟩⟩
    · cases hi
theorem newD_mem {n i : Nat} {η : List Addr} {S : Sto} {a : Addr} (hn : n ≤ i) (ha : η[i]? = some a) (h : (∃ l, S[i]? = some (.dic l)) ∨ ∃ l, S[i]? = some (.dit l)) : a ∈ newD n η S := by
  refine List.mem_filterMap.mpr ⟨i, List.mem_range.mpr ?_, ?_⟩
  · rcases h with ⟨l, q⟩ | ⟨l, q⟩ <;> exact (List.getElem?_eq_some_iff.mp q).1
  · rw [if_neg (by omega)]
    rcases h with ⟨l, q⟩ | ⟨l, q⟩ <;> rw [q] <;> exact ha
theorem nodup_newD {n : Nat} {η : List Addr} {S : Sto} (h : η.Nodup) : (newD n η S).Nodup := by
  unfold newD
  have key : ∀ (a : Addr) i, (if i < n then none else match S[i]? with | some (.dic _) => η[i]? | some (.dit _) => η[i]? | _ => none) = some a → η[i]? = some a := by
    intro a i h
    split at h
    · cases h
    · split at h <;> first | exact h | cases h
  refine List.pairwise_filterMap.mpr (List.nodup_range.imp fun {i j} hij a hi b hj e => ?_)
  subst e
  have e1 := key _ i hi
  have e2 := key _ j hj
  exact hij ((List.getElem?_inj (List.getElem?_eq_some_iff.mp e1).1 h).mp (by rw [e1, e2]))
theorem frz_rp {η B η' B' : List Addr} {S' : Sto} {H H' H2 : Hp} {dk : Bool} {m : Nat} (lv : ∀ b ∈ B, H b ≠ none) (n : Nx η B η' B' S' H H') (hm : η.length = m) (lk : Lkd (if dk = true then newD m η' S' else []) H' H2) : ∀ (f i : Nat) (d : D) (v : V), frzI dk S' m f i = some d → Rp η' (cold B' H') (.hot i) v → Rp η (cold B H2) d v
  | 0, _, _, _, h, _ => by cases h
  | f + 1, i, d, v, h, r => by
    have out : ∀ (i : Nat) a, m ≤ i → η'[i]? = some a → a ∉ B := fun i a hi ha hB => by
      rcases n.nw a (List.mem_of_getElem? ha) with z | z
      · obtain ⟨j, hj⟩ := List.getElem?_of_mem z
        have hj2 := n.up j a hj
        have : j = i := (List.getElem?_inj (List.getElem?_eq_some_iff.mp hj2).1 n.wd.nd).mp (by rw [hj2, ha])
        have := (List.getElem?_eq_some_iff.mp hj).1
        omega
      · exact lv a hB z
    have inB : ∀ a ∈ (if dk = true then newD m η' S' else []), a ∈ B' := fun a ha => by
      split at ha
      · obtain ⟨i, _, hi, _⟩ := mem_newD ha
        exact n.wd.sub a (List.mem_of_getElem? hi)
      · cases ha
    have le : Le (cold B' H') (cold B H2) := fun b o e => by
      obtain ⟨e1, e2⟩ := cold_of e
      exact cold_in (by rw [lk.1 b fun z => e2 (inB b z)]; exact e1) fun z => e2 (n.sb b z)
    have ih := frz_rp lv n hm lk f
    have plain : ∀ a o, η'[i]? = some a → m ≤ i → H' a = some o → (¬ isDc o) → cold B H2 a = some o := fun a o ha hi e nd => by
      refine cold_in ?_ (out i a hi ha)
      rw [lk.1 a fun z => ?_]
      · exact e
      · split at z
        · obtain ⟨j, _, hj, hS⟩ := mem_newD z
          have hji : j = i := (List.getElem?_inj (List.getElem?_eq_some_iff.mp hj).1 n.wd.nd).mp (by rw [hj, ha])
          rcases hS with ⟨l, hS⟩ | ⟨l, hS⟩
          · obtain ⟨ws, q, _⟩ := n.wd.hot j a _ hj hS
            rw [q] at e; cases e; exact nd trivial
          · obtain ⟨ws, q, _⟩ := n.wd.hot j a _ hj hS
            rw [q] at e; cases e; exact nd trivial
        · cases z
    unfold frzI at h
    split at h
    · rename_i hi
      cases h
      obtain ⟨a, e, q⟩ := r
      obtain ⟨b, hb⟩ : ∃ b, η[i]? = some b := ⟨_, List.getElem?_eq_getElem (by omega)⟩
      have := n.up i b hb
      rw [q] at this
      cases this
      exact ⟨a, e, hb⟩
    · rename_i hi
      split at h
      · rename_i l hl
        obtain ⟨l', h1, rfl⟩ := Option.map_eq_some_iff.mp h
        obtain ⟨a, e, ha, xs, q, t⟩ := n.wd.hotAt r hl
        exact ⟨a, xs, e, plain a _ ha (by omega) q (fun z => z), sb_rpL le ih l h1 t⟩
      · rename_i l hl
        split at h
        · rename_i hdk
          obtain ⟨l', h1, rfl⟩ := Option.map_eq_some_iff.mp h
          obtain ⟨a, e, ha, xs, q, t⟩ := n.wd.hotAt r hl
          obtain ⟨od, u, e1, e2⟩ := lk.2 a (by rw [if_pos hdk]; exact newD_mem (by omega) ha (.inl ⟨l, hl⟩))
          rw [q] at e1
          cases e1
          exact ⟨a, od, xs, e, cold_in e2 (out i a (by omega) ha), sb_rpK le ih l h1 t⟩
        · cases h
      · rename_i l hl
        split at h
        · rename_i hdk
          obtain ⟨l', h1, rfl⟩ := Option.map_eq_some_iff.mp h
          obtain ⟨a, e, ha, xs, q, t⟩ := n.wd.hotAt r hl
          obtain ⟨od, u, e1, e2⟩ := lk.2 a (by rw [if_pos hdk]; exact newD_mem (by omega) ha (.inr ⟨l, hl⟩))
          rw [q] at e1
          cases e1
          exact ⟨a, od, xs, e, cold_in e2 (out i a (by omega) ha), sb_rpT le ih l h1 t⟩
        · cases h
      · rename_i C l hl
        obtain ⟨l', h1, rfl⟩ := Option.map_eq_some_iff.mp h
        obtain ⟨a, e, ha, dx, xs, q, t⟩ := n.wd.hotAt r hl
        exact ⟨a, dx, xs, e, plain a _ ha (by omega) q (fun z => z), sb_rpF le ih l h1 t⟩
      · cases h
theorem stl_nx {η B η' B' : List Addr} {S S' S'' : Sto} {H H' H2 : Hp} {dk : Bool} (w : Wd η B S H) (n : Nx η B η' B' S' H H') (lk : Lkd (if dk = true then newD S.length η' S' else []) H' H2) (h : sbS (frzI dk S' S.length (S'.length + 1)) (S'.take S.length) = some S'') : Nx η B η B S'' H H2 := by
  have fz := frz_rp w.live n w.len lk (S'.length + 1)
  have hl' : S.length ≤ S'.length := by
    rw [← w.len, ← n.wd.len]
    refine Nat.le_of_not_lt fun hlt => ?_
    have hb : η[η'.length]? = some (η[η'.length]'hlt) := List.getElem?_eq_getElem hlt
    have := (List.getElem?_eq_some_iff.mp (n.up _ _ hb)).1
    omega
  have inN : ∀ a ∈ (if dk = true then newD S.length η' S' else []), ∃ i, S.length ≤ i ∧ η'[i]? = some a := fun a ha => by
    split at ha
    · obtain ⟨i, hi, hj, _⟩ := mem_newD ha
      exact ⟨i, hi, hj⟩
    · cases ha
  have inB : ∀ a ∈ (if dk = true then newD S.length η' S' else []), a ∈ B' := fun a ha => by
    obtain ⟨i, _, hi⟩ := inN a ha
    exact n.wd.sub a (List.mem_of_getElem? hi)
  have le : Le (cold B' H') (cold B H2) := fun b o e => by
    obtain ⟨e1, e2⟩ := cold_of e
    exact cold_in (by rw [lk.1 b fun z => e2 (inB b z)]; exact e1) fun z => e2 (n.sb b z)
  have old : ∀ b, H b ≠ none → b ∉ (if dk = true then newD S.length η' S' else []) := fun b hb z => by
    obtain ⟨i, hi, hj⟩ := inN b z
    rcases n.nw b (List.mem_of_getElem? hj) with q | q
    · obtain ⟨j, hj'⟩ := List.getElem?_of_mem q
      have hj2 := n.up j b hj'
      have : j = i := (List.getElem?_inj (List.getElem?_eq_some_iff.mp hj2).1 n.wd.nd).mp (by rw [hj2, hj])
      have := (List.getElem?_eq_some_iff.mp hj').1
      rw [w.len] at this
      omega
    · exact hb q
  refine ⟨⟨w.sub, fun b hb => ?_, w.nd, ?_, fun i a o hi ho => ?_⟩, .refl η, w.sub, fun _ h => .inl h, fun _ h => .inl h, fun _ h => h, fun a o na e => ?_⟩
  · rw [lk.1 b (old b (w.live b hb))]
    exact n.wd.live b (n.sb b hb)
  · rw [sbS_len h, List.length_take, w.len]
    omega
  · obtain ⟨u, hu, hs⟩ := sbS_get h ho
    have hu' : S'[i]? = some u := by
      rw [List.getElem?_take] at hu
      split at hu
      · exact hu
      · cases hu
    have hr := n.wd.hot i a u (n.up i a hi) hu'
    have hk : H2 a = H' a := lk.1 a (old a (w.live a (w.sub a (List.mem_of_getElem? hi))))
    cases u with
    | lst l => obtain ⟨l', h1, rfl⟩ := Option.map_eq_some_iff.mp hs; obtain ⟨xs, q, t⟩ := hr; exact ⟨xs, hk.trans q, sb_rpL le fz l h1 t⟩
    | dic l => obtain ⟨l', h1, rfl⟩ := Option.map_eq_some_iff.mp hs; obtain ⟨xs, q, t⟩ := hr; exact ⟨xs, hk.trans q, sb_rpK le fz l h1 t⟩
    | dit l => obtain ⟨l', h1, rfl⟩ := Option.map_eq_some_iff.mp hs; obtain ⟨xs, q, t⟩ := hr; exact ⟨xs, hk.trans q, sb_rpT le fz l h1 t⟩
    | obj C l => obtain ⟨l', h1, rfl⟩ := Option.map_eq_some_iff.mp hs; obtain ⟨dx, xs, q, t⟩ := hr; exact ⟨dx, xs, hk.trans q, sb_rpF le fz l h1 t⟩
    | dead => cases hs; trivial
  · rw [lk.1 a (old a (by rw [e]; exact fun z => nomatch z))]
    exact n.kp a o na e
theorem lk_none (H : Hp) {η' : List Addr} {S' : Sto} {m : Nat} : Lkd (if false = true then newD m η' S' else []) H H := ⟨fun _ _ => rfl, fun _ h => nomatch h⟩
theorem stl_le {η B η' B' : List Addr} {S' : Sto} {H H' : Hp} (n : Nx η B η' B' S' H H') : Le (cold B' H') (cold B H') := cold_sub n.sb
theorem ev_stl {η B : List Addr} {E : XK} {T : VK → Prop} {S : Sto} {H : Hp} {r : Res D} (w : Wd η B S H) (h : EvD η B E T H r) : EvD η B E T H (stl S.length r) := by
  cases r with
  | bad => trivial
  | ok d S' =>
    dsimp only [stl, stlD]
    split
    · rename_i d' S'' h1 h2
      exact fun Q k => h Q fun v η' B' H' n r => k v η B H' (stl_nx w n (lk_none H') h2) (sb_rp (stl_le n) (frz_rp w.live n w.len (lk_none H') _) d h1 r)
    · trivial
  | exc C fs S' =>
    dsimp only [stl, stlD]
    split
    · rename_i d' S'' h1 h2
      exact fun Q k => h Q fun dd ws η' B' H' n e1 e2 r => k dd ws η B H' (stl_nx w n (lk_none H') h2) e1 (cold_sub n.sb _ _ e2) (sb_rpF (stl_le n) (frz_rp w.live n w.len (lk_none H') _) fs h1 r)
    · trivial
/-- new hot things become cold, dicts are locked -/
theorem ev_stlD {η B : List Addr} {E : XK} {T : VK → Prop} {S : Sto} {H : Hp} {r : Res D} (w : Wd η B S H) (h : EvD η B E T H r) : EvD η B E (fun Q => T fun v H1 => Lk H1 (Q v)) H (stlD true S.length r) := by
  cases r with
  | bad => trivial
  | ok d S' =>
    dsimp only [stlD]
    split
    · rename_i d' S'' h1 h2
      refine fun Q k => h _ fun v η' B' H' n r => ⟨newD S.length η' S', nodup_newD n.wd.nd, fun a ha => ?_, fun H2 lk => ?_⟩
      · obtain ⟨i, _, hi, hS⟩ := mem_newD ha
        rcases hS with ⟨l, hS⟩ | ⟨l, hS⟩
        · obtain ⟨ws, q, _⟩ := n.wd.hot i a _ hi hS
          exact ⟨_, q, trivial⟩
        · obtain ⟨ws, q, _⟩ := n.wd.hot i a _ hi hS
          exact ⟨_, q, trivial⟩
      · have lk' : Lkd (if true = true then newD S.length η' S' else []) H' H2 := lk
        have le : Le (cold B' H') (cold B H2) := fun b o e => by
          obtain ⟨e1, e2⟩ := cold_of e
          have hnb : b ∉ newD S.length η' S' := fun z => by
            obtain ⟨i, _, hi, _⟩ := mem_newD z
            exact e2 (n.wd.sub b (List.mem_of_getElem? hi))
          exact cold_in (by rw [lk.1 b hnb]; exact e1) fun z => e2 (n.sb b z)
        exact k v η B H2 (stl_nx w n lk' h2) (sb_rp le (frz_rp w.live n w.len lk' _) d h1 r)
    · trivial
  | exc C fs S' =>
    dsimp only [stlD]
    split
    · rename_i d' S'' h1 h2
      exact fun Q k => h _ fun dd ws η' B' H' n e1 e2 r => k dd ws η B H' (stl_nx w n (lk_none H') h2) e1 (cold_sub n.sb _ _ e2) (sb_rpF (stl_le n) (frz_rp w.live n w.len (lk_none H') _) fs h1 r)
    · trivial
@[simp] def stlF (F : Env → Sto → Res D) : Env → Sto → Res D := fun ρ S => stlD true S.length (F ρ S)
theorem de_stl {X : Cx} {E : EK} {e : Expr} {t : TE} {F : Env → Sto → Res D} (h : DE X E e t F) : DE X E e (tLks t) (stlF F) := ⟨pe_lks h.1, fun η B S σ ρ H w s => ev_stlD w (h.2 η B S σ ρ H w s)⟩
@[simp] def stlM (m : List D → Sto → Res D) : List D → Sto → Res D := fun ds S => stl S.length (m ds S)
theorem post_stl {η B : List Addr} {S : Sto} {H : Hp} {Q : VK} {E : XK} {r : Res D} (w : Wd η B S H) (h : PostR η B H Q E (stl S.length r)) : PostR η B H Q E r := by
  cases r with
  | bad => exact h
  | ok d S' =>
    dsimp only [stl, stlD] at h
    split at h
    · rename_i d' S'' h1 h2
      exact fun v η' B' H' n r => h v η B H' (stl_nx w n (lk_none H') h2) (sb_rp (stl_le n) (frz_rp w.live n w.len (lk_none H') _) d h1 r)
    · exact h.elim
  | exc C fs S' =>
    dsimp only [stl, stlD] at h
    split at h
    · rename_i d' S'' h1 h2
      exact fun dd ws η' B' H' n e1 e2 r => h dd ws η B H' (stl_nx w n (lk_none H') h2) e1 (cold_sub n.sb _ _ e2) (sb_rpF (stl_le n) (frz_rp w.live n w.len (lk_none H') _) fs h1 r)
    · exact h.elim
theorem spF_stl {n : Nat} {m : List D → Sto → Res D} {vs : List V} {H : Hp} {Q : VK} {E : XK} (h : spF n (stlM m) vs H Q E) : spF n m vs H Q E := by
  obtain ⟨η, B, S, ds, hl, w, r, q⟩ := h
  exact ⟨η, B, S, ds, hl, w, r, post_stl w q⟩
section
variable {P : Program} {w : World} {K : PySem.W.Frag} {mg : Str → Option Value} {base : Heap} {CX : CXT} {k n : Nat} {f : Addr} {m : List D → Sto → Res D}
theorem FnOk.stl {fd : FuncData} {ps : List Str} (F : FnOk P w K mg base CX k f fd ps (spF n m)) : FnOk P w K mg base CX k f fd ps (spF n (stlM m)) := F.imp fun _ _ _ _ h => spF_stl h
theorem FnG.stl (F : FnG P w K mg base CX k f (spF n m)) : FnG P w K mg base CX k f (spF n (stlM m)) := fun A outer s H us vs Q E h1 h2 h3 h4 h5 => F A outer s H us vs Q E h1 h2 h3 h4 (spF_stl h5)
end
end DL
set_option Elab.async false
set_option linter.all false
set_option maxRecDepth 100000
set_option maxHeartbeats 4000000
set_option autoImplicit false
namespace DL
open PySem PySem.Spec PyProof.Rows L2
theorem _root_.L2.Room.units5 {k : Nat} {A : Around} (r : Room k A) : A.units + 65 < cLine := by have := r.un; omega
/-! ### f(k = v, ..): all parameters by their names, in their order -/
def DK (X : Cx) (E : EK) (kws : List Keyword) (t : TA) (F : Env → Sto → Res (List D)) : Prop := PK X kws t ∧ SoA E t F
def KwB (K : PySem.W.Frag) (fd : FuncData) (ps : List Str) : Prop := ∀ (s : Shared) (ws : List Value), K.In s.heap → ws.length = ps.length → BindsTo s fd ⟨[], ps.zip ws⟩ (ps.zip ws)
section
variable {X : Cx} {E : EK} {e : Expr} {kws : List Keyword} {te : TE} {tas : TA} {F : Env → Sto → Res D} {Fs : Env → Sto → Res (List D)} {pos p kp : Pos} {nm : Str}
theorem dk_nil : DK X E [] tNil fNilA := ⟨pk_nil, (da_nil (X := X)).2⟩
theorem so_consA {te : TE} {tas : TA} (ha : SoE E te F) (hb : SoA E tas Fs) : SoA E (tCons te tas) (consA F Fs) := fun η B S σ ρ H w s => by
  refine Ev.bind (T := te σ H) (T' := fun v H1 Q => tas σ H1 fun vs H2 => Q (v :: vs) H2) (ha η B S σ ρ H w s) fun d S1 v η1 B1 H1 n1 r1 => ?_
  refine Ev.bind (T := tas σ H1) (T' := fun vs H2 Q => Q (v :: vs) H2) (hb η1 B1 S1 σ ρ H1 n1.wd (n1.sl s)) fun ds S2 vs η2 B2 H2 n2 r2 => ?_
  exact Ev.now n2.wd ⟨v, vs, rfl, n2.rp r1, r2⟩
theorem dk_cons (ha : DE X E e te F) (hr : DK X E kws tas Fs) : DK X E (⟨some nm, e, kp⟩ :: kws) (tCons te tas) (consA F Fs) := ⟨pk_cons ha.1 hr.1, so_consA ha.2 hr.2⟩
theorem de_callKw {CX : CXT} {n k : Nat} {m : List D → Sto → Res D} {f : Addr} {fd : FuncData} {ps : List Str} {x : Str} (G : FnOk X.prog X.w X.K X.mg X.base CX k f fd ps (spF n m)) (hr : Room k X.A) (hm : X.mg x = some (.ref f)) (hk : PySem.W.keepIn X.K (.ref f) = true) (hb : KwB X.K fd ps)
    (hx : PassS CX X E) (ha : DK X E kws tas Fs) (hg : Gl X x := by rfl) (hdb : (x == ("__debug__" : Str)) = false := by decide) (hall : (backToKw pos (keywordEach kws X.env)).all (·.1.isSome) = true := by rfl) (hks : (backToKw pos (keywordEach kws X.env)).filterMap (·.1) = ps := by rfl)
    (hpl : ((backTo pos (starEach [] X.env)).any (·.1) || (backToKw pos (keywordEach kws X.env)).any (·.1.isNone)) = false := by rfl) :
    DE X E (.Call (.Name x p) [] kws pos) (tCallS' (spF n m) E tas) (callF n m Fs) := by
  refine ⟨⟨fun pins s σ H Q I h => ?_⟩, so_call ha.2⟩
  refine wpAny_Call_Name_kw (ld_glob I hg hm ?_ hdb)
  refine PySem.W.callWith_KW0 (h₀ := X.base) I.ok.mod.kin hk hall (thn (ha.1.run pos pins s σ H _ I h) fun ws s2 ⟨zs, H2, I2, rz, q2⟩ => ⟨I2.kIn, ?_⟩) hpl
  rw [hks]
  have hl := G.len _ _ _ _ q2
  refine wpAny_call (codeAny_mono (G.run X.A X.stack s2 H2 ⟨[] ++ [], ps.zip ws⟩ ws zs Q (E σ) hr I2.env0 (hb s2 ws I2.kIn (rz.length.symm.trans hl)) rz q2) fun r s' hq => ?_)
  cases r with
  | error e => exact hx pins σ H2 s2 e s' I2 hq
  | ok fl =>
    cases fl with
    | ret u => exact I2.after hq
    | next => exact False.elim hq
    | brk => exact False.elim hq
    | cont => exact False.elim hq
end
/-- a loop by its invariant, never left -/
theorem forF_inv {gF : D → Env → Option Env} {Φ : Env → Sto → Flow} (I : Env → Sto → Prop) : ∀ (items : List D) (ρ : Env) (S : Sto), I ρ S → (∀ d ∈ items, ∀ ρ S, I ρ S → ∃ ρ1 ρ2 S2, gF d ρ = some ρ1 ∧ Φ ρ1 S = .nx ρ2 S2 ∧ I ρ2 S2) →
    ∃ ρ' S', forF gF Φ items ρ S = .nx ρ' S' ∧ I ρ' S'
  | [], ρ, S, h, _ => ⟨ρ, S, rfl, h⟩
  | d :: ds, ρ, S, h, step => by
    obtain ⟨ρ1, ρ2, S2, e1, e2, h2⟩ := step d List.mem_cons_self ρ S h
    obtain ⟨ρ', S', e, h'⟩ := forF_inv I ds ρ2 S2 h2 fun d' hd => step d' (List.mem_cons_of_mem _ hd)
    refine ⟨ρ', S', ?_, h'⟩
    unfold forF
    rw [e1]
    dsimp only
    rw [e2]
    exact e
/-! ### the __init__ of an error: its two rows -/
def clsBody : Stmt → List Stmt
  | .ClassDef _ _ _ b _ _ _ _ _ _ _ => b
  | _ => []
section
variable {P : Program} {w : World} {K : PySem.W.Frag} {mg : Str → Option Value} {base : Heap}
theorem init_x {C fI : Addr} {fd : FuncData} {qual f : Str} {st : Stmt} {ms : Str} (F : Fun K "__init__" qual st fI fd) (Sc : FnScope [Str.ofString "self", f] [Str.ofString "self", f] (defScope st)) (oex : OexC K C) (hno : PySem.W.findIn K (.ref C) f = some none)
    (hbody : ∀ cdv A outer s H E, PSs ((cxOf CX0 P w K mg base [Str.ofString "self", f] qual (defScope st) fI cdv A outer s H E).nox) (defBody st) (tSeq (tDrop (tVeI K (tCons (tVar 0) (tCons (tC (.str ms)) tNil)))) (tOst K f (tVar 0) (tVar 1)))) : FnOk P w K mg base CX0 1 fI fd [Str.ofString "self", f] (spInit C [f]) := by
  refine F.ok Sc (fun vs H Q E h => ?_) (fun cdv A outer s H vs Q E hr h => ?_)
  · obtain ⟨a, ys, rfl, hl, _⟩ := h
    rw [List.length_cons, hl]
    rfl
  · obtain ⟨a, ys, rfl, hl, ha, q⟩ := h
    match ys, hl with
    | [y], _ =>
      refine ⟨_, hbody cdv A outer s H E, ?_⟩
      refine ⟨_, rfl, a, C, [.str ms], rfl, by show 1 ≤ 1000; decide, oex, ha, ?_⟩
      exact ⟨y, rfl, _, rfl, a, C, rfl, oex, hno, .inl ⟨ha, fun dx hd hn => q dx hd hn⟩⟩
end
end DL
set_option Elab.async false
set_option linter.all false
set_option maxRecDepth 100000
set_option maxHeartbeats 4000000
set_option autoImplicit false
namespace DL
open PySem PySem.Spec PyProof.Rows L2
/-! ### what is not reached -/
theorem de_any {X : Cx} {E : EK} {e : Expr} : DE X E e (fun _ _ _ => False) (fun _ _ => .bad) := ⟨⟨fun _ _ _ _ _ _ h => h.elim⟩, fun _ _ _ _ _ _ _ _ => trivial⟩
theorem ds_any {X : Cx} {E : EK} {st : Stmt} : DS X E st (fun _ _ _ => False) (fun _ _ => .bad) := ⟨⟨fun _ _ _ _ _ _ h => h.elim⟩, fun _ _ _ _ _ _ _ _ => trivial⟩
/-! ### tables -/
def kD : Key → D
  | .inl i => .int i
  | .inr s => .str s
def keyD : D → Option Key
  | .int i => some (.inl i)
  | .str s => some (.inr s)
  | _ => none
@[simp] theorem keyD_int (i : Int) : keyD (.int i) = some (.inl i) := rfl
@[simp] theorem keyD_str (s : Str) : keyD (.str s) = some (.inr s) := rfl
@[simp] theorem kD_inl (i : Int) : kD (.inl i) = .int i := rfl
@[simp] theorem kD_inr (i : Str) : kD (.inr i) = .str i := rfl
theorem keyD_rp {η : List Addr} {H : Hp} {d : D} {k : Key} {v : V} (h : keyD d = some k) (r : Rp η H d v) : v = kV k := by
  cases d <;> first | (cases h; done) | (cases h; exact r)
theorem kD_rp (η : List Addr) (H : Hp) (k : Key) : Rp η H (kD k) (kV k) := by
  cases k <;> rfl
section
variable {κ : Type} [DecidableEq κ]
def getA (l : List (κ × D)) (k : κ) : Option D := (l.find? fun kv => decide (kv.1 = k)).map (·.2)
def putA (l : List (κ × D)) (k : κ) (d : D) : List (κ × D) := if (l.any fun kv => decide (kv.1 = k)) = true then l.map (fun kv => if kv.1 = k then (kv.1, d) else kv) else l ++ [(k, d)]
def EachA (R : D → V → Prop) : List (κ × D) → List (κ × V) → Prop
  | [], ws => ws = []
  | (k, d) :: ds, ws => ∃ v vs, ws = (k, v) :: vs ∧ R d v ∧ EachA R ds vs
variable {R : D → V → Prop}
theorem EachA.keys : ∀ {l : List (κ × D)} {ws : List (κ × V)}, EachA R l ws → ws.map (·.1) = l.map (·.1)
  | [], _, r => by rw [show _ = [] from r]; rfl
  | (k, d) :: l, _, ⟨v, vs, e, r, t⟩ => by rw [e, List.map_cons, List.map_cons, EachA.keys t]
theorem EachA.length {l : List (κ × D)} {ws : List (κ × V)} (h : EachA R l ws) : ws.length = l.length := by
  have := congrArg List.length h.keys
  simpa using this
theorem EachA.get {k : κ} : ∀ {l : List (κ × D)} {ws : List (κ × V)}, EachA R l ws → (∃ d v, getA l k = some d ∧ valV ws k = some v ∧ R d v) ∨ (getA l k = none ∧ valV ws k = none)
  | [], _, r => by rw [show _ = [] from r]; exact .inr ⟨rfl, rfl⟩
  | (k', d) :: l, _, ⟨v, vs, e, r, t⟩ => by
    rw [e]
    by_cases h : k' = k
    · exact .inl ⟨d, v, by simp [getA, List.find?_cons, h], by simp [valV, List.find?_cons, h], r⟩
    · have ih := EachA.get (k := k) t
      have e1 : getA ((k', d) :: l) k = getA l k := by simp [getA, List.find?_cons, h]
      have e2 : valV ((k', v) :: vs) k = valV vs k := by simp [valV, List.find?_cons, h]
      rw [e1, e2]
      exact ih
theorem EachA.any {k : κ} : ∀ {l : List (κ × D)} {ws : List (κ × V)}, EachA R l ws → (ws.any fun kv => decide (kv.1 = k)) = l.any fun kv => decide (kv.1 = k)
  | [], _, r => by rw [show _ = [] from r]; rfl
  | (k', d) :: l, _, ⟨v, vs, e, r, t⟩ => by rw [e, List.any_cons, List.any_cons, EachA.any t]
theorem EachA.snoc : ∀ {l : List (κ × D)} {ws : List (κ × V)} {k : κ} {d : D} {v : V}, EachA R l ws → R d v → EachA R (l ++ [(k, d)]) (ws ++ [(k, v)])
  | [], _, k, d, v, r, q => by rw [show _ = [] from r]; exact ⟨v, [], rfl, q, rfl⟩
  | (k', d') :: l, _, k, d, v, ⟨u, us, e, r, t⟩, q => by rw [e]; exact ⟨u, _, rfl, r, EachA.snoc t q⟩
theorem EachA.put {k : κ} {d : D} {v : V} (q : R d v) {l : List (κ × D)} {ws : List (κ × V)} (h : EachA R l ws) : EachA R (putA l k d) (putK ws k v) := by
  unfold putA putK
  rw [h.any]
  split
  · have : ∀ {l : List (κ × D)} {ws : List (κ × V)}, EachA R l ws → EachA R (l.map fun kv => if kv.1 = k then (kv.1, d) else kv) (ws.map fun kv => if kv.1 = k then (kv.1, v) else kv) := by
      intro l
      induction l with
      | nil => intro ws r; rw [show ws = [] from r]; rfl
      | cons p l ih =>
        obtain ⟨k', d'⟩ := p
        rintro ws ⟨u, us, e, r, t⟩
        rw [e]
        by_cases hk : k' = k
        · simp only [List.map_cons, hk, if_true]
          exact ⟨v, _, rfl, q, ih t⟩
        · simp only [List.map_cons, if_neg hk]
          exact ⟨u, _, rfl, r, ih t⟩
    exact this h
  · exact h.snoc q
end
theorem rpK_iff {η : List Addr} {H : Hp} : ∀ {l : List (Key × D)} {ws : List (Key × V)}, RpK η H l ws ↔ EachA (Rp η H) l ws
  | [], _ => Iff.rfl
  | (k, d) :: l, _ => ⟨fun ⟨v, vs, e, r, t⟩ => ⟨v, vs, e, r, rpK_iff.mp t⟩, fun ⟨v, vs, e, r, t⟩ => ⟨v, vs, e, r, rpK_iff.mpr t⟩⟩
theorem rpT_iff {η : List Addr} {H : Hp} : ∀ {l : List (List Key × D)} {ws : List (List Key × V)}, RpT η H l ws ↔ EachA (Rp η H) l ws
  | [], _ => Iff.rfl
  | (k, d) :: l, _ => ⟨fun ⟨v, vs, e, r, t⟩ => ⟨v, vs, e, r, rpT_iff.mp t⟩, fun ⟨v, vs, e, r, t⟩ => ⟨v, vs, e, r, rpT_iff.mpr t⟩⟩
theorem rpF_iff {η : List Addr} {H : Hp} : ∀ {l : List (Str × D)} {ws : List (Str × V)}, RpF η H l ws ↔ EachA (Rp η H) l ws
  | [], _ => Iff.rfl
  | (k, d) :: l, _ => ⟨fun ⟨v, vs, e, r, t⟩ => ⟨v, vs, e, r, rpF_iff.mp t⟩, fun ⟨v, vs, e, r, t⟩ => ⟨v, vs, e, r, rpF_iff.mpr t⟩⟩
/-- a tuple of ints and texts as a key -/
def keysD : List D → Option (List Key)
  | [] => some []
  | d :: ds => (keyD d).bind fun k => (keysD ds).map (k :: ·)
theorem keysD_rp {η : List Addr} {H : Hp} : ∀ {ds : List D} {ks : List Key} {vs : List V}, keysD ds = some ks → RpL η H ds vs → vs = ks.map kV
  | [], ks, vs, h, r => by cases h; exact r
  | d :: ds, ks, vs, h, ⟨v, us, e, rv, rl⟩ => by
    obtain ⟨k, h1, h⟩ := Option.bind_eq_some_iff.mp h
    obtain ⟨ks', h2, rfl⟩ := Option.map_eq_some_iff.mp h
    rw [e, keyD_rp h1 rv, keysD_rp h2 rl]
    rfl
def OptR (R : D → V → Prop) : Option D → Option V → Prop
  | some d, some z => R d z
  | none, none => True
  | _, _ => False
theorem OptR.some {R : D → V → Prop} {d : D} {r : Option V} (h : OptR R (.some d) r) : ∃ z, r = .some z ∧ R d z := by
  cases r with
  | none => exact h.elim
  | some z => exact ⟨z, rfl, h⟩
theorem OptR.none {R : D → V → Prop} {r : Option V} (h : OptR R .none r) : r = .none := by
  cases r with
  | none => rfl
  | some z => exact h.elim
/-- what a dict has for y: none where that can't be told -/
def lookD (S : Sto) (x y : D) : Option (Option D) := match vK S x with
  | some l => (keyD y).map fun k => getA l k
  | none => match vT S x, y with
    | some l, .tup ks => (keysD ks).map fun k => getA l k
    | _, _ => none
theorem look_rp {η B : List Addr} {S : Sto} {H : Hp} {x y : D} {u v : V} {o : Option D} (w : Wd η B S H) (rx : Rp η (cold B H) x u) (ry : Rp η (cold B H) y v) (h : lookD S x y = some o) :
    ∃ a r, u = .ref a ∧ DGet H a v r ∧ IsD H a ∧ OptR (Rp η (cold B H)) o r := by
  unfold lookD at h
  split at h
  · rename_i l hl
    obtain ⟨k, hk, rfl⟩ := Option.map_eq_some_iff.mp h
    obtain ⟨a, ws, rfl, ha, ra⟩ := w.seeK rx hl
    obtain rfl := keyD_rp hk ry
    refine ⟨a, valV ws k, rfl, .inl ⟨ws, k, ha, rfl, rfl⟩, .inl ⟨ws, ha⟩, ?_⟩
    rcases (rpK_iff.mp ra).get (k := k) with ⟨d, z, e1, e2, r⟩ | ⟨e1, e2⟩
    · rw [e1, e2]; exact r
    · rw [e1, e2]; trivial
  · cases hT : vT S x with
    | none => rw [hT] at h; cases h
    | some l =>
      rw [hT] at h
      cases y <;> first | (cases h; done) | skip
      rename_i ks
      obtain ⟨k, hk, rfl⟩ := Option.map_eq_some_iff.mp h
      obtain ⟨a, ws, rfl, ha, ra⟩ := w.seeT rx hT
      obtain ⟨b, us, rfl, hb, rl⟩ := ry
      have e := keysD_rp hk rl
      subst e
      refine ⟨a, valV ws k, rfl, .inr ⟨ws, k, b, ha, rfl, (cold_of hb).1, rfl⟩, .inr ⟨ws, ha⟩, ?_⟩
      rcases (rpT_iff.mp ra).get (k := k) with ⟨d, z, e1, e2, r⟩ | ⟨e1, e2⟩
      · rw [e1, e2]; exact r
      · rw [e1, e2]; trivial
section
variable {X : Cx} {E : EK} {e o i f : Expr} {pos apos : Pos} {td ty tx : TE} {Fo Fi Fx : Env → Sto → Res D}
@[simp] def dget (Fo Fi : Env → Sto → Res D) : Env → Sto → Res D := fun ρ S => (Fo ρ S).bind fun x S1 => (Fi ρ S1).bind fun y S2 => match lookD S2 x y with
  | some (some d) => .ok d S2
  | _ => .bad
theorem de_dget (hu : X.A.units + 64 < cLine) (ho : DE X E o td Fo) (hi : DE X E i ty Fi) (hs : NoSl i := by exact fun _ _ => rfl) : DE X E (.Subscript o i pos) (tDGet td ty) (dget Fo Fi) := by
  refine ⟨pe_dget (by omega) ho.1 hi.1 hs, fun η B S σ ρ H w s => ?_⟩
  refine Ev.bind (T := td σ H) (T' := fun x H1 Q => ty σ H1 fun y H2 => ∃ a v, x = .ref a ∧ DGet H2 a y (some v) ∧ Q v H2) (ho.2 η B S σ ρ H w s) fun x S1 u η1 B1 H1 n1 r1 => ?_
  refine Ev.bind (T := ty σ H1) (T' := fun y H2 Q => ∃ a v, u = .ref a ∧ DGet H2 a y (some v) ∧ Q v H2) (hi.2 η1 B1 S1 σ ρ H1 n1.wd (n1.sl s)) fun y S2 v η2 B2 H2 n2 r2 => ?_
  split
  · rename_i d hd
    obtain ⟨a, r, rfl, g, _, hz⟩ := look_rp n2.wd (n2.rp r1) r2 hd
    obtain ⟨z, rfl, rz⟩ := OptR.some hz
    exact fun Q k => ⟨a, z, rfl, g, k z η2 B2 H2 n2.wd.refl rz⟩
  · trivial
@[simp] def dinF (neg : Bool) (Fi Fo : Env → Sto → Res D) : Env → Sto → Res D := fun ρ S => (Fi ρ S).bind fun y S1 => (Fo ρ S1).bind fun x S2 => match lookD S2 x y with
  | some r => .ok (.bl (if neg then !r.isSome else r.isSome)) S2
  | none => .bad
theorem so_din (hi : SoE E ty Fi) (ho : SoE E td Fo) : SoE E (tDIn ty td) (dinF false Fi Fo) := fun η B S σ ρ H w s => by
  refine Ev.bind (T := ty σ H) (T' := fun y H1 Q => td σ H1 fun x H2 => ∃ a o, x = .ref a ∧ DGet H2 a y o ∧ Q (V.bl o.isSome) H2) (hi η B S σ ρ H w s) fun y S1 v η1 B1 H1 n1 r1 => ?_
  refine Ev.bind (T := td σ H1) (T' := fun x H2 Q => ∃ a o, x = .ref a ∧ DGet H2 a v o ∧ Q (V.bl o.isSome) H2) (ho η1 B1 S1 σ ρ H1 n1.wd (n1.sl s)) fun x S2 u η2 B2 H2 n2 r2 => ?_
  split
  · rename_i r hr
    obtain ⟨a, r', rfl, g, _, hz⟩ := look_rp n2.wd r2 (n2.rp r1) hr
    refine fun Q k => ⟨a, r', rfl, g, k _ η2 B2 H2 n2.wd.refl ?_⟩
    cases r with
    | none => rw [OptR.none hz]; rfl
    | some d => obtain ⟨z, rfl, _⟩ := OptR.some hz; rfl
  · trivial
theorem so_ndin (hi : SoE E ty Fi) (ho : SoE E td Fo) : SoE E (tDNotIn ty td) (dinF true Fi Fo) := fun η B S σ ρ H w s => by
  refine Ev.bind (T := ty σ H) (T' := fun y H1 Q => td σ H1 fun x H2 => ∃ a o, x = .ref a ∧ DGet H2 a y o ∧ Q (V.bl (!o.isSome)) H2) (hi η B S σ ρ H w s) fun y S1 v η1 B1 H1 n1 r1 => ?_
  refine Ev.bind (T := td σ H1) (T' := fun x H2 Q => ∃ a o, x = .ref a ∧ DGet H2 a v o ∧ Q (V.bl (!o.isSome)) H2) (ho η1 B1 S1 σ ρ H1 n1.wd (n1.sl s)) fun x S2 u η2 B2 H2 n2 r2 => ?_
  split
  · rename_i r hr
    obtain ⟨a, r', rfl, g, _, hz⟩ := look_rp n2.wd r2 (n2.rp r1) hr
    refine fun Q k => ⟨a, r', rfl, g, k _ η2 B2 H2 n2.wd.refl ?_⟩
    cases r with
    | none => rw [OptR.none hz]; rfl
    | some d => obtain ⟨z, rfl, _⟩ := OptR.some hz; rfl
  · trivial
theorem tB_of {t : TE} {F : Env → Sto → Res D} (h : SoE E t F) : SoT E (tB t) (tst F) := fun η B S σ ρ H w s => by
  refine Ev.bind (T := t σ H) (T' := fun x H1 Q => ∃ k, x = .bl k ∧ Q k H1) (h η B S σ ρ H w s) fun d S1 v η1 B1 H1 n1 r1 => ?_
  cases d <;> first | trivial | exact fun Q k => ⟨_, r1, k _ η1 B1 H1 n1.wd.refl rfl⟩
theorem de_din (hu : X.A.units + 64 < cLine) (hi : DE X E i ty Fi) (ho : DE X E o td Fo) (hm : behindInMarks .In o = false := by rfl) : DE X E (.Compare i [.In] [o] pos) (tDIn ty td) (dinF false Fi Fo) := ⟨pe_cmp (pc_din (by omega) hi.1 ho.1) hm, so_din hi.2 ho.2⟩
theorem de_ndin (hu : X.A.units + 64 < cLine) (hi : DE X E i ty Fi) (ho : DE X E o td Fo) (hm : behindInMarks .NotIn o = false := by rfl) : DE X E (.Compare i [.NotIn] [o] pos) (tDNotIn ty td) (dinF true Fi Fo) := ⟨pe_cmp (pc_dnotin (by omega) hi.1 ho.1) hm, so_ndin hi.2 ho.2⟩
theorem dt_din (hu : X.A.units + 64 < cLine) (hi : DE X E i ty Fi) (ho : DE X E o td Fo) (hm : behindInMarks .In o = false := by rfl) : DT X E (.Compare i [.In] [o] pos) (tB (tDIn ty td)) (tst (dinF false Fi Fo)) := ⟨pt_cmp (pc_din (by omega) hi.1 ho.1) hm, tB_of (so_din hi.2 ho.2)⟩
theorem dt_ndin (hu : X.A.units + 64 < cLine) (hi : DE X E i ty Fi) (ho : DE X E o td Fo) (hm : behindInMarks .NotIn o = false := by rfl) : DT X E (.Compare i [.NotIn] [o] pos) (tB (tDNotIn ty td)) (tst (dinF true Fi Fo)) := ⟨pt_cmp (pc_dnotin (by omega) hi.1 ho.1) hm, tB_of (so_ndin hi.2 ho.2)⟩
/-! ### d.get(k), d.get(k, x) -/
def isDc' (S : Sto) (x : D) : Bool := (vK S x).isSome || (vT S x).isSome
theorem isD_rp {η B : List Addr} {S : Sto} {H : Hp} {x : D} {u : V} (w : Wd η B S H) (rx : Rp η (cold B H) x u) (h : isDc' S x = true) : ∃ a, u = .ref a ∧ IsD H a := by
  unfold isDc' at h
  rcases Bool.or_eq_true_iff.mp h with h | h
  · obtain ⟨l, hl⟩ := Option.isSome_iff_exists.mp h
    obtain ⟨a, ws, e, ha, _⟩ := w.seeK rx hl
    exact ⟨a, e, .inl ⟨ws, ha⟩⟩
  · obtain ⟨l, hl⟩ := Option.isSome_iff_exists.mp h
    obtain ⟨a, ws, e, ha, _⟩ := w.seeT rx hl
    exact ⟨a, e, .inr ⟨ws, ha⟩⟩
@[simp] def dget1 (Fo Fi : Env → Sto → Res D) : Env → Sto → Res D := fun ρ S => (Fo ρ S).bind fun x S1 => if isDc' S1 x = true then (Fi ρ S1).bind fun y S2 => (match lookD S2 x y with
  | some r => .ok (r.getD .non) S2
  | none => .bad) else .bad
theorem de_get1 (hu : X.A.units + 64 < cLine) (ho : DE X E o td Fo) (hi : DE X E i ty Fi) (hm : M1 X o "get" apos i pos := by exact ⟨rfl, rfl, rfl, rfl⟩) : DE X E (.Call (.Attribute o "get" apos) [i] [] pos) (tDGet1 td ty) (dget1 Fo Fi) := by
  refine ⟨pe_dget1 (by omega) ho.1 hi.1 hm, fun η B S σ ρ H w s => ?_⟩
  refine Ev.bind (T := td σ H) (T' := fun x H1 Q => ∃ a, x = .ref a ∧ IsD H1 a ∧ ty σ H1 fun y H2 => ∃ o, DGet H2 a y o ∧ Q (o.getD .non) H2) (ho.2 η B S σ ρ H w s) fun x S1 u η1 B1 H1 n1 r1 => ?_
  split
  · rename_i hx
    obtain ⟨a, rfl, hd⟩ := isD_rp n1.wd r1 hx
    have z := Ev.bind (R := fun η Hc d v => Rp η Hc d v) (R' := fun η Hc d v => Rp η Hc d v) (T := ty σ H1) (T' := fun y H2 Q => ∃ o, DGet H2 a y o ∧ Q (o.getD .non) H2) (k := fun y S2 => (match lookD S2 x y with
      | some r => Res.ok (r.getD D.non) S2
      | none => .bad)) (hi.2 η1 B1 S1 σ ρ H1 n1.wd (n1.sl s)) fun y S2 v η2 B2 H2 n2 r2 => by
      split
      · rename_i r hr
        obtain ⟨a', r', e, g, _, hz⟩ := look_rp n2.wd (n2.rp r1) r2 hr
        cases e
        refine fun Q k => ⟨r', g, k _ η2 B2 H2 n2.wd.refl ?_⟩
        cases r with
        | none => rw [OptR.none hz]; rfl
        | some d => obtain ⟨z, rfl, rz⟩ := OptR.some hz; exact rz
      · trivial
    revert z
    generalize (Res.bind (Fi ρ S1) fun y S2 => (match lookD S2 x y with
      | some r => Res.ok (r.getD D.non) S2
      | none => .bad)) = rr
    intro z
    cases rr with
    | bad => trivial
    | ok d S' => exact fun Q k => ⟨a, rfl, hd, z Q k⟩
    | exc C fs S' => exact fun Q k => ⟨a, rfl, hd, z Q k⟩
  · trivial
@[simp] def dget2 (Fo Fi Fx : Env → Sto → Res D) : Env → Sto → Res D := fun ρ S => (Fo ρ S).bind fun x S1 => if isDc' S1 x = true then (Fi ρ S1).bind fun y S2 => (Fx ρ S2).bind fun z S3 => (match lookD S3 x y with
  | some r => .ok (r.getD z) S3
  | none => .bad) else .bad
theorem de_get2 (hu : X.A.units + 64 < cLine) (ho : DE X E o td Fo) (hi : DE X E i ty Fi) (hf : DE X E f tx Fx) (hm : M2 X o "get" apos i f pos := by exact ⟨rfl, rfl, rfl, rfl⟩) : DE X E (.Call (.Attribute o "get" apos) [i, f] [] pos) (tDGet2 td ty tx) (dget2 Fo Fi Fx) := by
  refine ⟨pe_dget2 (by omega) ho.1 hi.1 hf.1 hm, fun η B S σ ρ H w s => ?_⟩
  refine Ev.bind (T := td σ H) (T' := fun x H1 Q => ∃ a, x = .ref a ∧ IsD H1 a ∧ ty σ H1 fun y H2 => tx σ H2 fun z H3 => ∃ o, DGet H3 a y o ∧ Q (o.getD z) H3) (ho.2 η B S σ ρ H w s) fun x S1 u η1 B1 H1 n1 r1 => ?_
  split
  · rename_i hx
    obtain ⟨a, rfl, hd⟩ := isD_rp n1.wd r1 hx
    have z := Ev.bind (R := fun η Hc d v => Rp η Hc d v) (R' := fun η Hc d v => Rp η Hc d v) (T := ty σ H1) (T' := fun y H2 Q => tx σ H2 fun z H3 => ∃ o, DGet H3 a y o ∧ Q (o.getD z) H3) (k := fun y S2 => (Fx ρ S2).bind fun z S3 => (match lookD S3 x y with
      | some r => Res.ok (r.getD z) S3
      | none => .bad)) (hi.2 η1 B1 S1 σ ρ H1 n1.wd (n1.sl s)) fun y S2 v η2 B2 H2 n2 r2 => by
      refine Ev.bind (T := tx σ H2) (T' := fun z H3 Q => ∃ o, DGet H3 a v o ∧ Q (o.getD z) H3) (hf.2 η2 B2 S2 σ ρ H2 n2.wd (n2.sl (n1.sl s))) fun zd S3 zv η3 B3 H3 n3 r3 => ?_
      split
      · rename_i r hr
        obtain ⟨a', r', e, g, _, hz⟩ := look_rp n3.wd (n3.rp (n2.rp r1)) (n3.rp r2) hr
        cases e
        refine fun Q k => ⟨r', g, k _ η3 B3 H3 n3.wd.refl ?_⟩
        cases r with
        | none => rw [OptR.none hz]; exact r3
        | some d => obtain ⟨z, rfl, rz⟩ := OptR.some hz; exact rz
      · trivial
    revert z
    generalize (Res.bind (Fi ρ S1) fun y S2 => (Fx ρ S2).bind fun z S3 => (match lookD S3 x y with
      | some r => Res.ok (r.getD z) S3
      | none => .bad)) = rr
    intro z
    cases rr with
    | bad => trivial
    | ok d S' => exact fun Q k => ⟨a, rfl, hd, z Q k⟩
    | exc C fs S' => exact fun Q k => ⟨a, rfl, hd, z Q k⟩
  · trivial
end
/-! ### len, list, isinstance of dicts -/
def rLenK : List V → Hp → VK → Prop := fun xs H Q => ∃ a kvs, xs = [V.ref a] ∧ L2.Rd H a (.dK kvs) ∧ Q (.int kvs.length) H
theorem cr_lenK {X : Cx} : CallR X (.builtin "len") rLenK := by
  intro pins s σ H xs us Q I r h
  obtain ⟨a, kvs, rfl, ha, q⟩ := h
  obtain ⟨u, rfl, ru⟩ := vals1 r
  cases ru
  exact d_len I ha fun t s' I' => ⟨.int kvs.length, H, I', ⟨t, rfl⟩, q⟩
end DL
set_option Elab.async false
set_option linter.all false
set_option maxRecDepth 100000
set_option maxHeartbeats 4000000
set_option autoImplicit false
namespace DL
open PySem PySem.Spec PyProof.Rows L2
/-! ### objects: fields read and stored -/
def putFD (f : Str) (d : D) : List (Str × D) → List (Str × D)
  | [] => [(f, d)]
  | (g, x) :: r => if g = f then (g, d) :: r else (g, x) :: putFD f d r
theorem RpF.put {η : List Addr} {H : Hp} {f : Str} {d : D} {v : V} (q : Rp η H d v) : ∀ {fs : List (Str × D)} {ws : List (Str × V)}, RpF η H fs ws → RpF η H (putFD f d fs) (putF f v ws)
  | [], _, r => by rw [show _ = [] from r]; exact ⟨v, [], rfl, q, rfl⟩
  | (g, x) :: fs, _, ⟨u, us, e, rx, t⟩ => by
    rw [e]
    unfold putFD putF
    by_cases h : g = f
    · rw [if_pos h, if_pos h]
      exact ⟨v, us, rfl, q, t⟩
    · rw [if_neg h, if_neg h]
      exact ⟨u, _, rfl, rx, RpF.put q t⟩
theorem RpF.length {η : List Addr} {H : Hp} {fs : List (Str × D)} {ws : List (Str × V)} (h : RpF η H fs ws) : ws.length = fs.length := (rpF_iff.mp h).length
theorem RpF.look0 {η : List Addr} {H : Hp} : ∀ {fs : List (Str × D)} {ws : List (Str × V)} {n : Str}, RpF η H fs ws → fs.lookup n = none → ws.lookup n = none
  | [], _, _, r, h => by rw [show _ = [] from r]; rfl
  | (k, x) :: fs, _, n, ⟨v, vs, e, rv, rl⟩, h => by
    subst e
    rw [List.lookup_cons] at h ⊢
    cases hk : n == k <;> rw [hk] at h
    · exact RpF.look0 rl h
    · cases h
section
variable {X : Cx} {E : EK} {e o : Expr} {es : List Expr} {pos apos p : Pos} {te to : TE} {tas : TA} {F Fo : Env → Sto → Res D} {Fs : Env → Sto → Res (List D)} {C : Addr} {f : Str}
@[simp] def fldF (C : Addr) (f : Str) (Fo : Env → Sto → Res D) : Env → Sto → Res D := fun ρ S => (Fo ρ S).bind fun x S1 => match vO S1 x with
  | some (C', fs) => if C' = C then lift (fs.lookup f) S1 else .bad
  | none => .bad
theorem de_fld {K : PySem.W.Frag} (c : Cls X.K C) (n : NoAttr X.K C f) (ho : DE X E o to Fo) (hK : X.K = K := by rfl) (hb : attributeBase o f X.env (eval o X.env) = eval o X.env := by rfl) : DE X E (.Attribute o f pos) (tFld K to f) (fldF C f Fo) := by
  subst hK
  refine ⟨pe_fld ho.1 hb, fun η B S σ ρ H w s => ?_⟩
  refine Ev.bind (T := to σ H) (T' := fun x H1 Q => ∃ a C dx fs v, x = .ref a ∧ H1 a = some (.ins C dx fs) ∧ Cls X.K C ∧ NoAttr X.K C f ∧ fs.lookup f = some v ∧ Q v H1) (ho.2 η B S σ ρ H w s) fun x S1 u η1 B1 H1 n1 r1 => ?_
  split
  · rename_i C' fs hx
    split
    · rename_i hC
      subst hC
      obtain ⟨a, dx, ws, rfl, ha, ra⟩ := n1.wd.seeO r1 hx
      cases hl : fs.lookup f with
      | none => trivial
      | some d =>
        obtain ⟨v, hv, rv⟩ := RpF.look ra hl
        exact fun Q k => ⟨a, _, dx, ws, v, rfl, ha, c, n, hv, k v η1 B1 H1 n1.wd.refl rv⟩
    · trivial
  · trivial
def hotO (S : Sto) (i : Nat) : Option (Addr × List (Str × D)) := match S[i]? with
  | some (.obj C l) => some (C, l)
  | _ => none
theorem hotO_eq {S : Sto} {i : Nat} {C : Addr} {l : List (Str × D)} (h : hotO S i = some (C, l)) : S[i]? = some (.obj C l) := by
  unfold hotO at h
  split at h
  · rename_i q; rw [q]; cases h; rfl
  · cases h
@[simp] def fStF (C : Addr) (f : Str) (Fo F : Env → Sto → Res D) : Env → Sto → Flow := fun ρ S => (F ρ S).flow ρ fun d S1 => (Fo ρ S1).flow ρ fun x S2 => match x with
  | .hot i => (match hotO S2 i with
    | some (C', fs) => if C' = C ∧ fs.length < 900 then .nx ρ (S2.set i (.obj C (putFD f d fs))) else .bad
    | none => .bad)
  | _ => .bad
theorem ds_fld {K : PySem.W.Frag} {pos' : Pos} (c : Cls X.K C) (n : NoAttr X.K C f) (ho : DE X E o to Fo) (he : DE X E e te F) (hK : X.K = K := by rfl) (hs : swapsWith e (some (.Attribute o f pos')) pos.line X.env = pure false := by rfl) :
    DS X E (.Assign [.Attribute o f pos'] e pos) (sFld K to te f) (fStF C f Fo F) := by
  subst hK
  refine ⟨ps_fld ho.1 he.1 hs, fun η B S σ ρ H w s => ?_⟩
  refine Sv.of s (T := te σ H) (T' := fun y H1 D => to σ H1 fun x H2 => ∃ a C dx fs, x = .ref a ∧ H2 a = some (.ins C dx fs) ∧ Cls X.K C ∧ NoAttr X.K C f ∧ fs.length < 1000 ∧ D.nx σ (upd H2 a (.ins C dx (putF f y fs)))) (he.2 η B S σ ρ H w s) fun d S1 v η1 B1 H1 n1 r1 => ?_
  refine Sv.of (n1.sl s) (T := to σ H1) (T' := fun x H2 D => ∃ a C dx fs, x = .ref a ∧ H2 a = some (.ins C dx fs) ∧ Cls X.K C ∧ NoAttr X.K C f ∧ fs.length < 1000 ∧ D.nx σ (upd H2 a (.ins C dx (putF f v fs)))) (ho.2 η1 B1 S1 σ ρ H1 n1.wd (n1.sl s)) fun x S2 u η2 B2 H2 n2 r2 => ?_
  cases x <;> first | trivial | skip
  rename_i i
  dsimp only
  split
  · rename_i C' fs hx
    split
    · rename_i hC
      obtain ⟨rfl, hl⟩ := hC
      obtain ⟨a, rfl, hη, dx, ws, ha, ra⟩ := n2.wd.hotAt r2 (hotO_eq hx)
      have nn : Nx η2 B2 η2 B2 (S2.set i (.obj C' (putFD f d fs))) H2 (upd H2 a (.ins C' dx (putF f v ws))) := n2.wd.setHot hη (u := .obj _ _) ⟨dx, _, upd_same, ra.put (n2.rp r1)⟩
      exact fun D kk => ⟨a, _, dx, ws, rfl, ha, c, n, by rw [ra.length]; omega, kk σ _ _ _ nn (nn.sl (n2.sl (n1.sl s)))⟩
    · trivial
  · trivial
/-! ### C(..) -/
@[simp] def mkO (C : Addr) (n : Nat) (m : List D → Sto → Res D) (dd : List D) (F : Env → Sto → Res (List D)) : Env → Sto → Res D := fun ρ S => (F ρ S).bind fun ds S1 => if (ds ++ dd).length + 1 = n then (m (.hot S1.length :: (ds ++ dd)) (S1 ++ [.obj C []])).bind fun r S2 => (match r with
  | .non => .ok (.hot S1.length) S2
  | _ => .bad) else .bad
theorem so_make {n : Nat} {m : List D → Sto → Res D} {dd : List D} {dvs : List V} (hdd : ∀ η H, RpL η H dd dvs) (ha : SoA E tas Fs) : SoE E (fun σ => tMake C (spF n m) dvs (E σ) tas σ) (mkO C n m dd Fs) := fun η B S σ ρ H w s => by
  refine Ev.bind (T := tas σ H) (T' := fun vs H1 Q => ∀ x dx, H1 x = none → H1 dx = none → dx ≠ x → spF n m (.ref x :: (vs ++ dvs)) (upd (upd H1 dx (.own x)) x (.ins C dx [])) (fun v H2 => v = .non ∧ Q (V.ref x) H2) (E σ)) (ha η B S σ ρ H w s) fun ds S1 vs η1 B1 H1 n1 r1 => ?_
  split
  · rename_i hl
    have step : ∀ x dx, H1 x = none → H1 dx = none → dx ≠ x → ∃ nn : Nx η1 B1 (η1 ++ [x]) (x :: B1) (S1 ++ [.obj C []]) H1 (upd (upd H1 dx (.own x)) x (.ins C dx [])), RpL (η1 ++ [x]) (cold (x :: B1) (upd (upd H1 dx (.own x)) x (.ins C dx []))) (.hot S1.length :: (ds ++ dd)) (.ref x :: (vs ++ dvs)) := fun x dx hx hdx hne => by
      have a1 := n1.wd.new (o := .own x) hdx
      have hx2 : upd H1 dx (.own x) x = none := by rw [upd_ne (Ne.symm hne)]; exact hx
      have a2 := a1.wd.alloc (p := x) (o := .ins C dx []) (u := .obj C []) hx2 ⟨dx, [], upd_same, rfl⟩
      have a3 := a1.trans a2
      exact ⟨a3, ⟨_, _, rfl, ⟨x, rfl, n1.wd.at_new⟩, (a3.rpL r1).append (hdd _ _)⟩⟩
    cases hm : m (.hot S1.length :: (ds ++ dd)) (S1 ++ [.obj C []]) with
    | bad => trivial
    | exc C' fs S2 =>
      intro Q k x dx hx hdx hne
      obtain ⟨nn, rl⟩ := step x dx hx hdx hne
      refine ⟨_, _, _, _, by simpa using hl, nn.wd, rl, ?_⟩
      rw [hm]
      intro d' ws η2 B2 H2 n2 e1 e2 rf
      exact k d' ws η2 B2 H2 (nn.trans n2) (nn.back e1) e2 rf
    | ok r S2 =>
      cases r <;> first | trivial | skip
      intro Q k x dx hx hdx hne
      obtain ⟨nn, rl⟩ := step x dx hx hdx hne
      refine ⟨_, _, _, _, by simpa using hl, nn.wd, rl, ?_⟩
      rw [hm]
      intro v η2 B2 H2 n2 rv
      exact ⟨rv, k _ η2 B2 H2 (nn.trans n2) ⟨x, rfl, n2.up _ _ n1.wd.at_new⟩⟩
  · trivial
/-- C(..), what is raised wished for at the slots -/
theorem run_mkS {CX : CXT} {k : Nat} {fI : Addr} {fd : FuncData} {ps : List Str} {sp : Sp} {dvs : List V} {ds : List Value} {E0 : XK} {pins : List (Addr × Obj)} {σ : L2.St} {H : Hp} {s : Shared} {Q : VK} {us : List Value} {vs : List V} (M : Mk X.K C fI) (G : FnOk X.prog X.w X.K X.mg X.base CX k fI fd ps sp) (hr : Room (k + 1) X.A) (hb : Binds X.K fd ps ds) (hd : Vals dvs ds) (hx : PassesAt CX X σ E0) (I : Inv X pins σ H s) (r : Vals vs us)
    (h : ∀ x dx, H x = none → H dx = none → dx ≠ x → sp (.ref x :: (vs ++ dvs)) (upd (upd H dx (.own x)) x (.ins C dx [])) (fun v H2 => v = .non ∧ Q (.ref x) H2) E0) : wpAny (model X.prog X.w) X.A (call (.ref C) us) (EP X pins σ Q) X.xe s := by
  let x := s.heap.objs.size + 1
  have want := h x s.heap.objs.size (I.hok.fresh (Nat.le_succ _)) (I.hok.fresh (Nat.le_refl _)) (Nat.ne_of_lt (Nat.lt_succ_self _))
  have J := Inv.made (C := C) I
  have rel : Vals (V.ref x :: (vs ++ dvs)) (Value.ref x :: (us ++ ds)) := .cons rfl (r.append hd)
  have len : (Value.ref x :: us ++ ds).length = ps.length := (rel.length.symm.trans (G.len _ _ _ _ want))
  refine wpAny_call (make_map (f := fI) I.kIn M.makes M.init (beq_iff_eq.mp M.fn) (codeAny_mono (G.run _ X.stack _ _ ⟨Value.ref x :: us, []⟩ (Value.ref x :: (us ++ ds)) _ _ E0 (hr.make C us []) (J.env0.make C us []) (hb _ (Value.ref x :: us) J.kIn len) rel want) fun res s' z => ?_))
  match res, z with
  | .error e, z => exact hx pins _ _ e s' J z
  | .ok (.ret u), z =>
    obtain ⟨v, H', I3, rv, rfl, q3⟩ := J.after z
    exact ⟨rv, ⟨V.ref x, H', I3, rfl, q3⟩⟩
  | .ok .next, z => exact z.elim
  | .ok .brk, z => exact z.elim
  | .ok .cont, z => exact z.elim
theorem at_of {CX : CXT} (hx : PassS CX X E) (σ : L2.St) : PassesAt CX X σ (E σ) := fun pins H s e s' I c => hx pins σ H s e s' I c
theorem de_make {CX : CXT} {k n : Nat} {m : List D → Sto → Res D} {fI : Addr} {fd : FuncData} {ps : List Str} {x : Str} {ds : List Value} {dvs : List V} {dd : List D} (M : Mk X.K C fI) (G : FnOk X.prog X.w X.K X.mg X.base CX k fI fd ps (spF n m)) (hr : Room (k + 1) X.A) (hm : X.mg x = some (.ref C)) (hb : Binds X.K fd ps ds) (hd : Vals dvs ds) (hdd : ∀ η H, RpL η H dd dvs) (hx : PassS CX X E)
    (ha : DA X E (e :: es) tas Fs) (hg : Gl X x := by rfl) (hdb : (x == ("__debug__" : Str)) = false := by decide) (he : starEach (e :: es) X.env = (false, eval e X.env) :: starEach es X.env := by rfl) (hpl : (backTo pos (starEach es X.env)).any (·.1) = false := by rfl) :
    DE X E (.Call (.Name x p) (e :: es) [] pos) (fun σ => tMake C (spF n m) dvs (E σ) tas σ) (mkO C n m dd Fs) := by
  refine ⟨⟨fun pins s σ H Q I h => ?_⟩, so_make hdd ha.2⟩
  refine wpAny_Call_Name_kw (ld_glob I hg hm (PySem.W.callWith_K (h₀ := X.base) I.ok.mod.kin M.kp (thn (ha.1.run pos pins s σ H _ I h) fun us s1 z => ?_) he hpl) hdb)
  obtain ⟨vs, H1, I1, r, q⟩ := z
  exact ⟨I1.kIn, run_mkS M G hr hb hd (at_of hx σ) I1 r q⟩
theorem de_make0 {CX : CXT} {k n : Nat} {m : List D → Sto → Res D} {fI : Addr} {fd : FuncData} {ps : List Str} {x : Str} {ds : List Value} {dvs : List V} {dd : List D} (M : Mk X.K C fI) (G : FnOk X.prog X.w X.K X.mg X.base CX k fI fd ps (spF n m)) (hr : Room (k + 1) X.A) (hm : X.mg x = some (.ref C)) (hb : Binds X.K fd ps ds) (hd : Vals dvs ds) (hdd : ∀ η H, RpL η H dd dvs) (hx : PassS CX X E)
    (hg : Gl X x := by rfl) (hdb : (x == ("__debug__" : Str)) = false := by decide) : DE X E (.Call (.Name x p) [] [] pos) (fun σ => tMake C (spF n m) dvs (E σ) tNil σ) (mkO C n m dd fNilA) :=
  ⟨⟨fun pins s σ H Q I h => wpAny_Call_Name_kw (ld_glob I hg hm (PySem.W.callWith_K0 I.kIn M.kp (run_mkS (us := []) M G hr hb hd (at_of hx σ) I .nil h)) hdb)⟩, so_make hdd (da_nil (X := X)).2⟩
/-! ### o.m(..) -/
@[simp] def methF (C : Addr) (nm : Str) (n : Nat) (m : List D → Sto → Res D) (Fo : Env → Sto → Res D) (F : Env → Sto → Res (List D)) : Env → Sto → Res D := fun ρ S => (Fo ρ S).bind fun x S1 => match vO S1 x with
  | some (C', fs) => if C' = C ∧ fs.lookup nm = none then (F ρ S1).bind fun ds S2 => if ds.length + 1 = n then m (x :: ds) S2 else .bad else .bad
  | none => .bad
theorem so_meth {n : Nat} {m : List D → Sto → Res D} {nm : Str} (ho : SoE E to Fo) (ha : SoA E tas Fs) : SoE E (fun σ => tMeth C nm (spF n m) [] (E σ) to tas σ) (methF C nm n m Fo Fs) := fun η B S σ ρ H w s => by
  refine Ev.bind (T := to σ H) (T' := fun x H1 Q => ∃ a dx fs, x = .ref a ∧ H1 a = some (.ins C dx fs) ∧ fs.lookup nm = none ∧ tas σ H1 fun vs H2 => spF n m (x :: (vs ++ [])) H2 Q (E σ)) (ho η B S σ ρ H w s) fun x S1 u η1 B1 H1 n1 r1 => ?_
  split
  · rename_i C' fs hx
    split
    · rename_i hC
      obtain ⟨rfl, hl⟩ := hC
      obtain ⟨a, dx, ws, rfl, ha', ra⟩ := n1.wd.seeO r1 hx
      have hlw := RpF.look0 ra hl
      have z := Ev.bind (R := fun η Hc d v => RpL η Hc d v) (R' := fun η Hc d v => Rp η Hc d v) (T := tas σ H1) (T' := fun vs H2 Q => spF n m (.ref a :: (vs ++ [])) H2 Q (E σ)) (k := fun ds S2 => if ds.length + 1 = n then m (x :: ds) S2 else .bad) (ha η1 B1 S1 σ ρ H1 n1.wd (n1.sl s)) fun ds S2 vs η2 B2 H2 n2 r2 => by
        split
        · rename_i hn
          have := ev_spF (m := m) (E := E σ) (ds := x :: ds) (vs := .ref a :: vs) hn n2.wd ⟨_, _, rfl, n2.rp r1, r2⟩
          rw [List.append_nil]
          exact this
        · trivial
      revert z
      generalize (Res.bind (Fs ρ S1) fun ds S2 => if ds.length + 1 = n then m (x :: ds) S2 else .bad) = rr
      intro z
      cases rr with
      | bad => trivial
      | ok d S' => exact fun Q k => ⟨a, dx, ws, rfl, ha', hlw, z Q k⟩
      | exc C fs S' => exact fun Q k => ⟨a, dx, ws, rfl, ha', hlw, z Q k⟩
    · trivial
  · trivial
theorem de_meth {CX : CXT} {k n : Nat} {m : List D → Sto → Res D} {g : Addr} {fd : FuncData} {ps : List Str} {nm : Str} {pl : Sem Bool} (c : Cls X.K C) (hm : Meth X.K C nm g) (G : FnOk X.prog X.w X.K X.mg X.base CX k g fd ps (spF n m)) (hr : Room k X.A) (hb : Binds X.K fd ps []) (hx : PassS CX X E)
    (ho : DE X E o to Fo) (ha : DA X E (e :: es) tas Fs) (hst : starEach (e :: es) X.env = (false, eval e X.env) :: starEach es X.env := by rfl) (hpl : (backTo pos (starEach es X.env)).any (·.1) = false := by rfl)
    (ht : eval (.Call (.Attribute o nm apos) (e :: es) [] pos) X.env = (do
      let ov ← eval o X.env
      standAt apos.atName
      let (f, first) ← holding [ov] (getMethod ov nm pl)
      callWith pos f first (backTo pos (starEach (e :: es) X.env)) (backToKw pos (keywordEach [] X.env))) := by rfl) :
    DE X E (.Call (.Attribute o nm apos) (e :: es) [] pos) (fun σ => tMeth C nm (spF n m) [] (E σ) to tas σ) (methF C nm n m Fo Fs) := by
  refine ⟨⟨fun pins s σ H Q I h => ?_⟩, so_meth ho.2 ha.2⟩
  refine PySem.W.methodCall_KW (pl := pl) (thn (ho.1.run pins s σ H _ I h) fun u s1 z => ?_) ht
  obtain ⟨x, H1, I1, rx, a, dx, fs, rfl, ea, l, q⟩ := z
  obtain rfl : u = Value.ref a := rx
  refine getmeth_ok I1 ea c hm l (PySem.W.callWith_K (first := [.ref a]) (h₀ := X.base) I.ok.mod.kin hm.kp (thn (ha.1.run pos pins s1 σ H1 _ I1 q) fun us s2 z => ?_) hst hpl)
  obtain ⟨vs, H2, I2, r, q2⟩ := z
  exact ⟨I2.kIn, run_fnSD (us := .ref a :: us) (vs := .ref a :: vs) (E := E) G hr hb .nil (at_of hx σ) I2 (.cons rfl r) q2⟩
theorem de_meth0 {CX : CXT} {k n : Nat} {m : List D → Sto → Res D} {g : Addr} {fd : FuncData} {ps : List Str} {nm : Str} {pl : Sem Bool} (c : Cls X.K C) (hm : Meth X.K C nm g) (G : FnOk X.prog X.w X.K X.mg X.base CX k g fd ps (spF n m)) (hr : Room k X.A) (hb : Binds X.K fd ps []) (hx : PassS CX X E)
    (ho : DE X E o to Fo)
    (ht : eval (.Call (.Attribute o nm apos) [] [] pos) X.env = (do
      let ov ← eval o X.env
      standAt apos.atName
      let (f, first) ← holding [ov] (getMethod ov nm pl)
      callWith pos f first (backTo pos (starEach [] X.env)) (backToKw pos (keywordEach [] X.env))) := by rfl) :
    DE X E (.Call (.Attribute o nm apos) [] [] pos) (fun σ => tMeth C nm (spF n m) [] (E σ) to tNil σ) (methF C nm n m Fo fNilA) := by
  refine ⟨⟨fun pins s σ H Q I h => ?_⟩, so_meth ho.2 (da_nil (X := X)).2⟩
  refine PySem.W.methodCall_KW (pl := pl) (thn (ho.1.run pins s σ H _ I h) fun u s1 z => ?_) ht
  obtain ⟨x, H1, I1, rx, a, dx, fs, rfl, ea, l, q⟩ := z
  obtain rfl : u = Value.ref a := rx
  exact getmeth_ok I1 ea c hm l (PySem.W.callWith_K0 (first := [.ref a]) I1.kIn hm.kp (run_fnSD (us := [.ref a]) (vs := [.ref a]) (E := E) G hr hb .nil (at_of hx σ) I1 (.cons rfl .nil) q))
end
end DL
set_option Elab.async false
set_option linter.all false
set_option maxRecDepth 100000
set_option maxHeartbeats 4000000
set_option autoImplicit false
namespace DL
open PySem PySem.Spec PyProof.Rows L2
theorem EachA.nth {κ : Type} {R : D → V → Prop} : ∀ {l : List (κ × D)} {ws : List (κ × V)}, EachA R l ws → ∀ {i : Nat} {k : κ} {v : V}, ws[i]? = some (k, v) → ∃ d, l[i]? = some (k, d) ∧ R d v
  | [], _, r, i, k, v, e => by rw [show _ = [] from r] at e; simp at e
  | (k', d) :: l, _, ⟨u, us, ew, r, t⟩, 0, k, v, e => by
    rw [ew] at e
    simp at e
    obtain ⟨rfl, rfl⟩ := e
    exact ⟨d, rfl, r⟩
  | (k', d) :: l, _, ⟨u, us, ew, r, t⟩, i + 1, k, v, e => by
    rw [ew] at e
    exact EachA.nth t (i := i) (by simpa using e)
/-! ### for k in d; for v in d.values(); for k, v in d.items() -/
@[simp] def asK : D → Option (List D)
  | .dic l => some (l.map fun kv => kD kv.1)
  | _ => none
@[simp] def asV : D → Option (List D)
  | .dic l => some (l.map fun kv => kv.2)
  | _ => none
@[simp] def asI : D → Option (List D)
  | .dic l => some (l.map fun kv => .tup [kD kv.1, kv.2])
  | _ => none
section
variable {X : Cx} {E : EK} {tg e a b : Expr} {es elts : List Expr} {te : TE} {ta : TA} {F : Env → Sto → Res D} {Fs : Env → Sto → Res (List D)} {pos p apos tpos : Pos} {kk : Nat}
theorem di_keys (h : DE X E e te F) : DI X E tg e (iKeys te) (itF asK F) := by
  refine ⟨pi_keys h.1, fun η B S σ ρ H w s => Ev.bind (T := te σ H) (T' := fun x H1 R => ∃ d o, x = .ref d ∧ ((∃ kvs, H1 d = some (.frz o (.dK kvs)) ∧ R (Itk d o kvs) H1) ∨ ∃ kvs, H1 d = some (.frz o (.dT kvs)) ∧ R (Itkt d o kvs) H1)) (h.2 η B S σ ρ H w s) fun d S1 v η1 B1 H1 n1 r1 => ?_⟩
  cases d <;> first | trivial | skip
  rename_i l
  obtain ⟨q, o, ws, rfl, hq, rl⟩ := r1
  have rl := rpK_iff.mp rl
  refine fun Q k => ⟨q, o, rfl, .inl ⟨ws, (cold_of hq).1, k _ η1 B1 H1 n1.wd.refl ⟨_, _, by rw [List.length_map, ← rl.length]; exact walk_keys, fun η' B' S' H' u' w' sm => (cold_of (sm _ _ hq)).1, fun η' B' S' H' i x H'' u' w' sm hi y => ?_⟩⟩⟩
  obtain ⟨rfl, k', v, hx, rfl⟩ := y
  obtain ⟨d, hd, _⟩ := rl.nth hx
  exact ⟨w'.refl, kD k', by rw [List.getElem?_map, hd]; rfl, kD_rp _ _ _⟩
theorem di_values (h : DE X E e te F) (hbase : attributeBase e "values" X.env (eval e X.env) = eval e X.env := by rfl) (hline : (apos.endLine == pos.line) = true := by rfl) : DI X E tg (.Call (.Attribute e "values" apos) [] [] pos) (iVals te) (itF asV F) := by
  refine ⟨pi_values h.1 hbase hline, fun η B S σ ρ H w s => Ev.bind (T := te σ H) (T' := fun x H1 R => ∃ d o kvs, x = .ref d ∧ H1 d = some (.frz o (.dK kvs)) ∧ R (Itd d o kvs) H1) (h.2 η B S σ ρ H w s) fun d S1 v η1 B1 H1 n1 r1 => ?_⟩
  cases d <;> first | trivial | skip
  rename_i l
  obtain ⟨q, o, ws, rfl, hq, rl⟩ := r1
  have rl := rpK_iff.mp rl
  refine fun Q k => ⟨q, o, ws, rfl, (cold_of hq).1, k _ η1 B1 H1 n1.wd.refl ⟨_, _, by rw [List.length_map, ← rl.length]; exact walk_values, fun η' B' S' H' u' w' sm => (cold_of (sm _ _ hq)).1, fun η' B' S' H' i x H'' u' w' sm hi y => ?_⟩⟩
  obtain ⟨rfl, k', hx⟩ := y
  obtain ⟨d, hd, rd⟩ := rl.nth hx
  exact ⟨w'.refl, d, by rw [List.getElem?_map, hd]; rfl, Rp.le (.of sm) u' d rd⟩
theorem di_items (h : DE X E e te F) (hbase : attributeBase e "items" X.env (eval e X.env) = eval e X.env := by rfl) (hline : (apos.endLine == pos.line) = true := by rfl) : DI X E (.Tuple elts kk tpos) (.Call (.Attribute e "items" apos) [] [] pos) (iItems te) (itF asI F) := by
  refine ⟨pi_items h.1 hbase hline, fun η B S σ ρ H w s => Ev.bind (T := te σ H) (T' := fun x H1 R => ∃ d o kvs, x = .ref d ∧ H1 d = some (.frz o (.dK kvs)) ∧ R (Iti d o kvs) H1) (h.2 η B S σ ρ H w s) fun d S1 v η1 B1 H1 n1 r1 => ?_⟩
  cases d <;> first | trivial | skip
  rename_i l
  obtain ⟨q, o, ws, rfl, hq, rl⟩ := r1
  have rl := rpK_iff.mp rl
  refine fun Q k => ⟨q, o, ws, rfl, (cold_of hq).1, k _ η1 B1 H1 n1.wd.refl ⟨_, _, by rw [List.length_map, ← rl.length]; exact walk_items, fun η' B' S' H' u' w' sm => (cold_of (sm _ _ hq)).1, fun η' B' S' H' i x H'' u' w' sm hi y => ?_⟩⟩
  obtain ⟨T, x1, x2, rfl, hT, rfl, h1, h2⟩ := y
  dsimp only at h1 h2
  cases hw : ws[i]? with
  | none => rw [hw] at h1; cases h1
  | some kv =>
    obtain ⟨k', v⟩ := kv
    rw [hw] at h1 h2
    cases h1
    cases h2
    obtain ⟨d, hd, rd⟩ := rl.nth hw
    have nn := w'.new (o := .tup [kV k', v]) hT
    refine ⟨nn, .tup [kD k', d], by rw [List.getElem?_map, hd]; rfl, T, _, rfl, w'.cold_new hT, _, _, rfl, kD_rp _ _ _, _, _, rfl, nn.rp (Rp.le (.of sm) u' d rd), rfl⟩
/-! ### enumerate, zip of lists -/
def enumF (l : List D) : List D := l.zipIdx.map fun q => .tup [.int (q.2 : Nat), q.1]
theorem enumF_len (l : List D) : (enumF l).length = l.length := by simp [enumF]
theorem enumF_get {l : List D} {i : Nat} {d : D} (h : l[i]? = some d) : (enumF l)[i]? = some (.tup [.int (i : Nat), d]) := by
  unfold enumF
  rw [List.getElem?_map, List.getElem?_zipIdx, h]
  simp
@[simp] def asE : List D → Option (List D)
  | [.lst l] => some (enumF l)
  | _ => none
theorem di_enumerate {K : PySem.W.Frag} (hm : X.mg "enumerate" = none) (h : DA X E [e] ta Fs) (hK : X.K = K := by rfl) (hg : Gl X "enumerate" := by rfl) (hs : starEach [e] X.env = [(false, eval e X.env)] := by rfl) : DI X E (.Tuple elts kk tpos) (.Call (.Name "enumerate" p) [e] [] pos) (iEnum K ta) (itA asE Fs) := by
  subst hK
  refine ⟨pi_enum hg hm h.1 hs, fun η B S σ ρ H w s => Ev.bind (T := ta σ H) (T' := fun vs H1 R => ∃ a xs, vs = [V.ref a] ∧ SqL X.K H1 a xs ∧ R (Ite X.K a) H1) (h.2 η B S σ ρ H w s) fun ds S1 vs η1 B1 H1 n1 r1 => ?_⟩
  show Ev RI η1 B1 (E σ) _ H1 (lift (asE ds) S1)
  unfold asE
  split
  · rename_i l
    obtain ⟨v, r2, rfl, ⟨q, xs, rfl, hq, rl⟩, rfl⟩ := r1
    refine fun Q k => ⟨q, xs, rfl, .inl (.inl (cold_of hq).1), k _ η1 B1 H1 n1.wd.refl ⟨_, _, by rw [enumF_len, ← rl.length]; exact walk_enum (K := X.K) (a := q) (xs := xs), fun η' B' S' H' u' w' sm => (show SqL X.K H' q xs from .inl (.inl (cold_of (sm _ _ hq)).1)), fun η' B' S' H' i x H'' u' w' sm hi y => ?_⟩⟩
    obtain ⟨T, x1, x2, rfl, hT, rfl, h1, h2⟩ := y
    dsimp only at h1 h2
    cases h1
    obtain ⟨d, hd, rd⟩ := rl.get h2
    have nn := w'.new (o := .tup [V.int (i : Nat), x2]) hT
    exact ⟨nn, _, enumF_get hd, T, _, rfl, w'.cold_new hT, _, _, rfl, rfl, _, _, rfl, nn.rp (Rp.le (.of sm) u' d rd), rfl⟩
  · trivial
def zipF (l m : List D) : List D := (l.zip m).map fun q => .tup [q.1, q.2]
@[simp] def asZ : List D → Option (List D)
  | [.lst l, .lst m] => some (zipF l m)
  | _ => none
theorem di_zip {K : PySem.W.Frag} (hm : X.mg "zip" = none) (h : DA X E [a, b] ta Fs) (hK : X.K = K := by rfl) (hg : Gl X "zip" := by rfl) (hs : starEach [a, b] X.env = (false, eval a X.env) :: starEach [b] X.env := by rfl) (hs2 : (backTo pos (starEach [b] X.env)).any (·.1) = false := by rfl) :
    DI X E (.Tuple elts kk tpos) (.Call (.Name "zip" p) [a, b] [] pos) (iZip K ta) (itA asZ Fs) := by
  subst hK
  refine ⟨pi_zip hg hm h.1 hs hs2, fun η B S σ ρ H w s => Ev.bind (T := ta σ H) (T' := fun vs H1 R => ∃ a b xs ys, vs = [V.ref a, V.ref b] ∧ SqL X.K H1 a xs ∧ SqL X.K H1 b ys ∧ R (Itz X.K a b) H1) (h.2 η B S σ ρ H w s) fun ds S1 vs η1 B1 H1 n1 r1 => ?_⟩
  show Ev RI η1 B1 (E σ) _ H1 (lift (asZ ds) S1)
  unfold asZ
  split
  · rename_i l m
    obtain ⟨v, r2, rfl, ⟨q, xs, rfl, hq, rl⟩, v', r3, rfl, ⟨q', ys, rfl, hq', rl'⟩, rfl⟩ := r1
    refine fun Q k => ⟨q, q', xs, ys, rfl, .inl (.inl (cold_of hq).1), .inl (.inl (cold_of hq').1), k _ η1 B1 H1 n1.wd.refl ⟨_, _, walk_zip (K := X.K) (a := q) (b := q') (xs := xs) (ys := ys) (by unfold zipF; rw [List.length_map, List.length_zip, rl.length, rl'.length]), fun η' B' S' H' u' w' sm => ⟨.inl (.inl (cold_of (sm _ _ hq)).1), .inl (.inl (cold_of (sm _ _ hq')).1)⟩, fun η' B' S' H' i x H'' u' w' sm hi y => ?_⟩⟩
    obtain ⟨T, x1, x2, rfl, hT, rfl, h1, h2⟩ := y
    obtain ⟨d, hd, rd⟩ := rl.get h1
    obtain ⟨d', hd', rd'⟩ := rl'.get h2
    have nn := w'.new (o := .tup [x1, x2]) hT
    refine ⟨nn, .tup [d, d'], ?_, T, _, rfl, w'.cold_new hT, _, _, rfl, nn.rp (Rp.le (.of sm) u' d rd), _, _, rfl, nn.rp (Rp.le (.of sm) u' d' rd'), rfl⟩
    unfold zipF
    have hz : (l.zip m)[i]? = some (d, d') := List.getElem?_zip_eq_some.mpr ⟨hd, hd'⟩
    rw [List.getElem?_map, hz]
    rfl
  · trivial
end
/-! ### {k: v, ..} -/
/-- the pairs of a display -/
def DPs (X : Cx) (E : EK) (pos : Pos) (keys : List (Option Expr)) (values : List Expr) (trs : List (TE × TE)) (F : Env → Sto → Res (List (D × D))) : Prop :=
  PPs X pos keys values trs ∧ ∀ η B S σ ρ H, Wd η B S H → Sl η (cold B H) σ ρ → Ev (fun η Hc (l : List (D × D)) (ps : List (V × V)) => RpL η Hc (l.map (·.1)) (ps.map (·.1)) ∧ RpL η Hc (l.map (·.2)) (ps.map (·.2))) η B (E σ) (tPairs trs σ H) H (F ρ S)
section
variable {X : Cx} {E : EK} {pos : Pos} {keys : List (Option Expr)} {values : List Expr} {trs : List (TE × TE)} {k v : Expr} {tk tv : TE} {Fk Fv : Env → Sto → Res D} {Fp : Env → Sto → Res (List (D × D))}
@[simp] def fNilP : Env → Sto → Res (List (D × D)) := fun _ S => .ok [] S
@[simp] def consP (Fk Fv : Env → Sto → Res D) (F : Env → Sto → Res (List (D × D))) : Env → Sto → Res (List (D × D)) := fun ρ S => (Fk ρ S).bind fun a S1 => (Fv ρ S1).bind fun b S2 => (F ρ S2).bind fun l S3 => .ok ((a, b) :: l) S3
theorem dps_nil : DPs X E pos [] [] [] fNilP := ⟨pps_nil, fun η B S σ ρ H w s Q q => q [] η B H w.refl ⟨rfl, rfl⟩⟩
theorem dps_cons (hk : DE X E k tk Fk) (hv : DE X E v tv Fv) (hr : DPs X E pos keys values trs Fp) : DPs X E pos (some k :: keys) (v :: values) ((tk, tv) :: trs) (consP Fk Fv Fp) := by
  refine ⟨pps_cons hk.1 hv.1 hr.1, fun η B S σ ρ H w s => ?_⟩
  refine Ev.bind (T := tk σ H) (T' := fun x H1 Q => tv σ H1 fun y H2 => tPairs trs σ H2 fun ps H3 => Q ((x, y) :: ps) H3) (hk.2 η B S σ ρ H w s) fun a S1 x η1 B1 H1 n1 r1 => ?_
  refine Ev.bind (T := tv σ H1) (T' := fun y H2 Q => tPairs trs σ H2 fun ps H3 => Q ((x, y) :: ps) H3) (hv.2 η1 B1 S1 σ ρ H1 n1.wd (n1.sl s)) fun b S2 y η2 B2 H2 n2 r2 => ?_
  refine Ev.bind (T := tPairs trs σ H2) (T' := fun ps H3 Q => Q ((x, y) :: ps) H3) (hr.2 η2 B2 S2 σ ρ H2 n2.wd (n2.sl (n1.sl s))) fun l S3 ps η3 B3 H3 n3 r3 => ?_
  exact Ev.now n3.wd ⟨⟨x, _, rfl, n3.rp (n2.rp r1), r3.1⟩, ⟨y, _, rfl, n3.rp r2, r3.2⟩⟩
def keyAll : List (D × D) → Option (List (Key × D))
  | [] => some []
  | (a, b) :: l => (keyD a).bind fun k => (keyAll l).map ((k, b) :: ·)
def mergeA (l more : List (Key × D)) : List (Key × D) := more.foldl (fun acc kv => putA acc kv.1 kv.2) l
theorem EachA.merge {R : D → V → Prop} : ∀ {more : List (Key × D)} {ms : List (Key × V)} {l : List (Key × D)} {ws : List (Key × V)}, EachA R more ms → EachA R l ws → EachA R (mergeA l more) (mergeK ws ms)
  | [], _, l, ws, r, h => by rw [show _ = [] from r]; exact h
  | (k, d) :: more, _, l, ws, ⟨v, vs, e, r, t⟩, h => by
    rw [e]
    show EachA R (mergeA (putA l k d) more) (mergeK (putK ws k v) vs)
    exact EachA.merge (more := more) t (h.put r)
theorem keyAll_rp {η : List Addr} {H : Hp} : ∀ {l : List (D × D)} {kvs : List (Key × D)} {ps : List (V × V)}, keyAll l = some kvs → RpL η H (l.map (·.1)) (ps.map (·.1)) → RpL η H (l.map (·.2)) (ps.map (·.2)) → ∃ ws : List (Key × V), ps = ws.map (fun kv => (kV kv.1, kv.2)) ∧ EachA (Rp η H) kvs ws
  | [], kvs, ps, h, r1, r2 => by
    cases h
    have : ps = [] := List.map_eq_nil_iff.mp r1
    exact ⟨[], this, rfl⟩
  | (a, b) :: l, kvs, ps, h, r1, r2 => by
    obtain ⟨k, h1, h⟩ := Option.bind_eq_some_iff.mp h
    obtain ⟨kvs', h2, rfl⟩ := Option.map_eq_some_iff.mp h
    cases ps with
    | nil => obtain ⟨_, _, e, _⟩ := r1; cases e
    | cons p ps =>
      obtain ⟨x, xs, e1, ra, r1⟩ := r1
      obtain ⟨y, ys, e2, rb, r2⟩ := r2
      cases e1
      cases e2
      obtain ⟨ws, e, t⟩ := keyAll_rp h2 r1 r2
      refine ⟨(k, p.2) :: ws, ?_, p.2, ws, rfl, rb, t⟩
      rw [e, List.map_cons, ← keyD_rp h1 ra]
theorem keyAll_len : ∀ {l : List (D × D)} {kvs : List (Key × D)}, keyAll l = some kvs → kvs.length = l.length
  | [], kvs, h => by cases h; rfl
  | (a, b) :: l, kvs, h => by
    obtain ⟨k, h1, h⟩ := Option.bind_eq_some_iff.mp h
    obtain ⟨kvs', h2, rfl⟩ := Option.map_eq_some_iff.mp h
    simp [keyAll_len h2]
/-- the new dict is hot -/
@[simp] def dispD (F : Env → Sto → Res (List (D × D))) : Env → Sto → Res D := fun ρ S => (F ρ S).bind fun l S1 => match keyAll l with
  | some kvs => if kvs.length ≤ 15 then .ok (.hot S1.length) (S1 ++ [.dic (mergeA [] kvs)]) else .bad
  | none => .bad
theorem de_disp (h : DPs X E pos keys values trs Fp) (hall : keys.all (·.isSome) = true := by rfl) (hl : keys.length = values.length := by rfl) (h0 : keys ≠ [] := by exact fun z => nomatch z) (h15 : keys.length ≤ 15 := by decide) : DE X E (.Dict keys values pos) (tDisp trs) (dispD Fp) := by
  refine ⟨pe_disp h.1 hall hl h0 h15, fun η B S σ ρ H w s => ?_⟩
  unfold dispD
  cases hF : Fp ρ S with
  | bad => trivial
  | exc C fs S1 =>
    intro Q k p hp
    have na := w.hide (p := p) (o := .dK []) hp
    have z := h.2 _ _ _ σ ρ _ na.wd (na.sl s)
    rw [hF] at z
    exact z _ fun dd ws η1 B1 H1 n1 e1 e2 r => k dd ws η1 B1 H1 (na.trans n1) (na.back e1) e2 r
  | ok l S1 =>
    dsimp only [Res.bind]
    split
    · rename_i kvs hk
      split
      · rename_i hlen
        intro Q k p hp
        have na := w.hide (p := p) (o := .dK []) hp
        have z := h.2 _ _ _ σ ρ _ na.wd (na.sl s)
        rw [hF] at z
        refine z _ fun ps η1 B1 H1 n1 r1 => ?_
        have hpη : p ∉ η := fun z => w.live p (w.sub p z) hp
        have hp1 : H1 p = some (.dK []) := n1.kp p _ hpη upd_same
        have hpη1 : p ∉ η1 := n1.far hpη (by rw [upd_same]; exact fun z => nomatch z)
        have hpB : p ∈ B1 := n1.sb p List.mem_cons_self
        obtain ⟨ws, ew, rw'⟩ := keyAll_rp hk r1.1 r1.2
        refine ⟨hp1, ws, ew, by rw [rw'.length]; exact hlen, k _ _ _ _ ((na.trans n1).adopt hp hpB hpη1 (u := .dic _) ⟨_, upd_same, ?_⟩) ⟨p, rfl, ?_⟩⟩
        · rw [cold_put hpB]
          exact (rpK_iff.mpr (EachA.merge rw' (show EachA _ [] [] from rfl))).up (up_snoc _ _)
        · rw [← n1.wd.len]; simp
      · trivial
    · trivial
@[simp] def newDK : Env → Sto → Res D := fun _ S => .ok (.hot S.length) (S ++ [.dic []])
@[simp] def newDT : Env → Sto → Res D := fun _ S => .ok (.hot S.length) (S ++ [.dit []])
theorem de_dnew : DE X E (.Dict [] [] pos) tDNewK newDK := ⟨pe_dnewK, fun η B S σ ρ H w s Q k p hp => k _ _ _ _ (w.alloc (u := .dic []) hp ⟨[], upd_same, rfl⟩) ⟨p, rfl, w.at_new⟩⟩
theorem de_dnewT : DE X E (.Dict [] [] pos) tDNewT newDT := ⟨pe_dnewT, fun η B S σ ρ H w s Q k p hp => k _ _ _ _ (w.alloc (u := .dit []) hp ⟨[], upd_same, rfl⟩) ⟨p, rfl, w.at_new⟩⟩
end
end DL
set_option Elab.async false
set_option linter.all false
set_option maxRecDepth 100000
set_option maxHeartbeats 4000000
set_option autoImplicit false
namespace DL
open PySem PySem.Spec PyProof.Rows L2
/-! ### walks, whatever is done at a turn -/
theorem it_walk {J : It} {n : Nat} {G : Hp → Prop} {Y : Nat → Hp → V → Hp → Prop} (wk : Walk J n G Y) {Bd : V → Hp → (Hp → Prop) → Prop} {Qd : Hp → Prop} {H0 : Hp} (Pv : Nat → Hp → Prop) (h0 : Pv 0 H0) (hG : ∀ i H, i ≤ n → Pv i H → G H)
    (hs : ∀ i x H H', i < n → Pv i H → Y i H x H' → Bd x H' (Pv (i + 1))) (hd : ∀ H, Pv n H → Qd H) :
    ∃ W : Nat → Nat → Hp → Prop, (∃ m, W 0 m H0) ∧ ∀ i m H, W i m H → (J.stop i H ∧ Qd H) ∨ (J.go i H ∧ ∃ Nn : Hp → Prop, (∀ H', Nn H' → ∃ m', m' < m ∧ W (i + 1) m' H') ∧ ∀ x H', J.yld i H x H' → Bd x H' Nn) := by
  refine ⟨fun i m H => m + i = n ∧ Pv i H, ⟨n, rfl, h0⟩, ?_⟩
  rintro i m H ⟨hm, pv⟩
  have gg := hG i H (by omega) pv
  rcases Nat.lt_or_ge i n with hi | hi
  · exact .inr ⟨wk.goes i H hi gg, Pv (i + 1), fun H' p' => ⟨m - 1, by omega, by omega, p'⟩, fun x H' yy => hs i x H H' hi pv (wk.yields i H x H' hi gg yy)⟩
  · obtain rfl : i = n := by omega
    exact .inl ⟨wk.stops H gg, hd H pv⟩
/-! ### {k: v for ..} -/
def dcF (gF : D → Env → Option Env) (T : Env → Sto → Res Bool) (Fk Fv : Env → Sto → Res D) (ρ : Env) : List D → Sto → List (Key × D) → Res (List (Key × D))
  | [], S, acc => .ok acc S
  | d :: ds, S, acc => match gF d ρ with
    | none => .bad
    | some ρ1 => match T ρ1 S with
      | .ok true S1 => (match Fk ρ1 S1 with
        | .ok y S2 => (match keyD y with
          | some k => (match Fv ρ1 S2 with
            | .ok z S3 => dcF gF T Fk Fv ρ ds S3 (putA acc k z)
            | _ => .bad)
          | none => .bad)
        | _ => .bad)
      | .ok false S1 => dcF gF T Fk Fv ρ ds S1 acc
      | _ => .bad
def dcomp (vs : List Nat) (Fi : Env → Sto → Res (List D)) (gF : D → Env → Option Env) (T : Env → Sto → Res Bool) (Fk Fv : Env → Sto → Res D) : Env → Sto → Res D := fun ρ S =>
  (Fi ρ S).bind fun items S1 => if items.length ≤ 100000 then (dcF gF T Fk Fv (wipeE ρ vs) items S1 []).bind (fun l S2 => .ok (.hot S2.length) (S2 ++ [.dic l])) else .bad
theorem putA_len {l : List (Key × D)} {k : Key} {d : D} : (putA l k d).length ≤ l.length + 1 := by
  unfold putA
  split <;> simp
theorem dc_loop {E : XK} {J : It} {g : TG} {is vs : List Nat} {gF : D → Env → Option Env} {tt : TT} {tk tv : TE} {T : Env → Sto → Res Bool} {Fk Fv : Env → Sto → Res D} (hg : SoG g is gF) (his : ∀ i ∈ is, i ∈ vs) (ht : SoT EN tt T) (hk : SoE EN tk Fk) (he : SoE EN tv Fv)
    {η B : List Addr} {S1 : Sto} {σ : L2.St} {ρ : Env} {H1 : Hp} {items : List D} (w1 : Wd η B S1 H1) (s1 : Sl η (cold B H1) σ ρ) (ri : RI η (cold B H1) items J) (hn : items.length ≤ 100000) :
    EvD η B E (fun Q => ∀ D, H1 D = none → ∃ W : Nat → Nat → Hp → Prop, (∃ m, W 0 m (upd H1 D (.dK []))) ∧ ∀ i m H, W i m H →
      (J.stop i H ∧ Q (V.ref D) H) ∨ (J.go i H ∧ ∃ Nx : Hp → Prop, (∀ H', Nx H' → ∃ m', m' < m ∧ W (i + 1) m' H') ∧ ∀ x H', J.yld i H x H' → g x (L2.wipe σ vs) H' fun σ2 H2 => L2.wipe σ2 vs = L2.wipe σ vs ∧ tt σ2 H2 fun b H3 =>
        if b = true then tk σ2 H3 fun y H4 => tv σ2 H4 fun z H5 => ∃ kvs k, y = kV k ∧ H5 D = some (.dK kvs) ∧ kvs.length < sizeLine ∧ Nx (upd H5 D (.dK (putK kvs k z))) else Nx H3)) H1
      ((dcF gF T Fk Fv (wipeE ρ vs) items S1 []).bind (fun l S2 => .ok (.hot S2.length) (S2 ++ [.dic l]))) := by
  obtain ⟨G, Y, wk, hG, hY⟩ := ri
  cases hR : dcF gF T Fk Fv (wipeE ρ vs) items S1 [] with
  | bad => trivial
  | exc C fs S' =>
    exfalso
    have none_exc : ∀ (ds : List D) (S : Sto) (acc : List (Key × D)) (C : Addr) (fs : List (Str × D)) (S' : Sto), dcF gF T Fk Fv (wipeE ρ vs) ds S acc ≠ .exc C fs S' := by
      intro ds
      induction ds with
      | nil => intro S acc C fs S' z; cases z
      | cons d ds ih =>
        intro S acc C fs S' z
        unfold dcF at z
        split at z
        · cases z
        · split at z
          · split at z
            · split at z
              · split at z
                · exact ih _ _ _ _ _ z
                · cases z
              · cases z
            · cases z
          · exact ih _ _ _ _ _ z
          · cases z
    exact none_exc _ _ _ _ _ _ hR
  | ok res Sf =>
    intro Q k D hD
    have nDη : D ∉ η := fun z => w1.live D (w1.sub D z) hD
    have nDB : D ∉ B := w1.fresh hD
    refine it_walk wk (fun i H' => ∃ (ηi Bi : List Addr) (Si : Sto) (acc : List (Key × DL.D)) (xs : List (Key × V)), dcF gF T Fk Fv (wipeE ρ vs) (items.drop i) Si acc = .ok res Sf ∧ acc.length ≤ i ∧ Nx η B ηi Bi Si H1 H' ∧ D ∈ Bi ∧ D ∉ ηi ∧ H' D = some (.dK xs) ∧ EachA (Rp ηi (cold Bi H')) acc xs) ?_ ?_ ?_ ?_
    · exact ⟨η, D :: B, S1, [], [], hR, Nat.le_refl _, w1.hide hD, List.mem_cons_self, nDη, upd_same, rfl⟩
    · rintro i H' _ ⟨ηi, Bi, Si, acc, xs, _, _, n', _, _, hx, _⟩
      exact hG ηi Bi Si H' n'.up n'.wd n'.same
    · rintro i x H' H'' hi ⟨ηi, Bi, Si, acc, xs, hr, hl, n', dB, dη, hx, rx⟩ y
      obtain ⟨n2, d, hd, rd⟩ := hY ηi Bi Si H' i x H'' n'.up n'.wd n'.same hi y
      have hdrop : items.drop i = d :: items.drop (i + 1) := by
        rw [List.drop_eq_getElem_cons hi]
        congr 1
        rw [List.getElem?_eq_getElem hi] at hd
        exact Option.some.inj hd
      rw [hdrop] at hr
      unfold dcF at hr
      cases hg1 : gF d (wipeE ρ vs) with
      | none => rw [hg1] at hr; cases hr
      | some ρ1 =>
        rw [hg1] at hr
        dsimp only at hr
        have sw : Sl ηi (cold Bi H'') (L2.wipe σ vs) (wipeE ρ vs) := n2.sl (n'.sl (s1.wipe vs))
        refine hg ηi Bi Si H'' d x _ _ ρ1 n2.wd sw rd hg1 _ fun σ2 s2 hw => ⟨(hw vs his).trans (wipe_idem vs σ), ?_⟩
        have hD2 : H'' D = some (.dK xs) := n2.kp D _ dη hx
        have up := fun {η' B' : List Addr} {S' : Sto} {H' H3 : Hp} {η0 B0 : List Addr} {l : List (Key × DL.D)} {ws : List (Key × V)} (n : Nx η0 B0 η' B' S' H' H3) (r : EachA (Rp η0 (cold B0 H')) l ws) => rpK_iff.mp (n.rpK (rpK_iff.mpr r))
        cases ht1 : T ρ1 Si with
        | bad => rw [ht1] at hr; cases hr
        | exc C fs S' => rw [ht1] at hr; cases hr
        | ok b S2 =>
          rw [ht1] at hr
          have z := ht ηi Bi Si σ2 ρ1 H'' n2.wd s2
          rw [ht1] at z
          refine z _ fun b' η3 B3 H3 n3 eb => ?_
          subst eb
          have hD3 : H3 D = some (.dK xs) := n3.kp D _ dη hD2
          have dη3 : D ∉ η3 := n3.far dη (by rw [hD2]; exact fun z => nomatch z)
          cases b with
          | false =>
            refine iteF ⟨η3, B3, S2, acc, xs, hr, by omega, (n'.trans n2).trans n3, n3.sb D dB, dη3, hD3, up n3 (up n2 rx)⟩
          | true =>
            dsimp only at hr
            refine iteT ?_
            cases hf : Fk ρ1 S2 with
            | bad => rw [hf] at hr; cases hr
            | exc C fs S' => rw [hf] at hr; cases hr
            | ok yd S4 =>
              rw [hf] at hr
              dsimp only at hr
              cases hky : keyD yd with
              | none => rw [hky] at hr; cases hr
              | some ky =>
              rw [hky] at hr
              dsimp only at hr
              have z := hk η3 B3 S2 σ2 ρ1 H3 n3.wd (n3.sl s2)
              rw [hf] at z
              refine z _ fun yv η4 B4 H4 n4 r4 => ?_
              have hD4 : H4 D = some (.dK xs) := n4.kp D _ dη3 hD3
              have dη4 : D ∉ η4 := n4.far dη3 (by rw [hD3]; exact fun z => nomatch z)
              cases hfv : Fv ρ1 S4 with
              | bad => rw [hfv] at hr; cases hr
              | exc C fs S' => rw [hfv] at hr; cases hr
              | ok zd S5 =>
                rw [hfv] at hr
                dsimp only at hr
                have z := he η4 B4 S4 σ2 ρ1 H4 n4.wd (n4.sl (n3.sl s2))
                rw [hfv] at z
                refine z _ fun zv η5 B5 H5 n5 r5 => ?_
                have dη5 : D ∉ η5 := n5.far dη4 (by rw [hD4]; exact fun z => nomatch z)
                have dB5 : D ∈ B5 := n5.sb D (n4.sb D (n3.sb D dB))
                have rx5 := up n5 (up n4 (up n3 (up n2 rx)))
                refine ⟨xs, ky, keyD_rp hky r4, n5.kp D _ dη4 hD4, ?_, η5, B5, S5, putA acc ky zd, putK xs ky zv, hr, ?_, ((((n'.trans n2).trans n3).trans n4).trans n5).put hD dB5 dη5, dB5, dη5, upd_same, ?_⟩
                · rw [rx.length]
                  exact Nat.lt_of_lt_of_le (Nat.lt_of_le_of_lt hl hi) (size_ok hn)
                · exact Nat.le_trans putA_len (Nat.succ_le_succ hl)
                · rw [cold_put dB5]
                  exact rx5.put r5
    · rintro H' ⟨ηi, Bi, Si, acc, xs, hr, hl, n', dB, dη, hx, rx⟩
      rw [List.drop_length] at hr
      cases hr
      have e : upd H' D (.dK xs) = H' := by
        funext a
        by_cases h : a = D
        · rw [h, upd_same, hx]
        · rw [upd_ne h]
      have ad := n'.adopt (o := .dK xs) (u := .dic res) hD dB dη ⟨xs, upd_same, by rw [e]; exact (rpK_iff.mpr rx).up (up_snoc _ _)⟩
      rw [e] at ad
      exact k _ _ _ _ ad ⟨D, rfl, by rw [← n'.wd.len]; simp⟩
section
variable {X : Cx} {E : EK} {tg iter elt kx vx : Expr} {ifs : List Expr} {scope : Scope} {own : List (Str × Nat)} {pos : Pos} {wi : TI} {g : TG} {tt : TT} {tk tv : TE} {Fi : Env → Sto → Res (List D)} {gF : D → Env → Option Env} {T : Env → Sto → Res Bool} {Fk Fv : Env → Sto → Res D} {is : List Nat}
theorem so_dc {vs : List Nat} (hi : SoI E wi Fi) (hg : SoG g is gF) (his : ∀ i ∈ is, i ∈ vs) (ht : SoT EN tt T) (hk : SoE EN tk Fk) (he : SoE EN tv Fv) : SoE E (tDc wi g tt tk tv vs) (dcomp vs Fi gF T Fk Fv) := fun η B S σ ρ H w s => by
  refine Ev.bind (T := wi σ H) (T' := fun (J : It) (H1 : Hp) (Q : VK) => ∀ D, H1 D = none → ∃ W : Nat → Nat → Hp → Prop, (∃ m, W 0 m (upd H1 D (.dK []))) ∧ ∀ i m H, W i m H →
      (J.stop i H ∧ Q (V.ref D) H) ∨ (J.go i H ∧ ∃ Nx : Hp → Prop, (∀ H', Nx H' → ∃ m', m' < m ∧ W (i + 1) m' H') ∧ ∀ x H', J.yld i H x H' → g x (L2.wipe σ vs) H' fun σ2 H2 => L2.wipe σ2 vs = L2.wipe σ vs ∧ tt σ2 H2 fun b H3 =>
        if b = true then tk σ2 H3 fun y H4 => tv σ2 H4 fun z H5 => ∃ kvs k, y = kV k ∧ H5 D = some (.dK kvs) ∧ kvs.length < sizeLine ∧ Nx (upd H5 D (.dK (putK kvs k z))) else Nx H3)) (hi η B S σ ρ H w s) fun items S1 J η1 B1 H1 n1 r1 => ?_
  by_cases hn : items.length ≤ 100000
  · rw [if_pos hn]
    exact dc_loop hg his ht hk he n1.wd (n1.sl s) r1 hn
  · rw [if_neg hn]
    trivial
theorem de_dc (b : Blk X scope own tg ifs vx g tt tv gF T Fv) (hkx : ∀ (s : Shared) (H : Hp) (C : Addr) (cl : List (Str × Addr)) (fp : List Addr), DE (X.blk s H scope (compEnvC scope cl C X.env) fp) EN kx tk Fk) (hi : DI X E tg iter wi Fi) (hc : X.calm = true := by rfl) (hN : X.N.Nodup) (hs : ∀ x, foldedSetIterable iter X.env x = pure x := by intro _; rfl) :
    DE X E (.DictComp kx vx [⟨tg, iter, ifs, 0⟩] scope pos) (tDc wi g tt tk tv (own.map (·.2))) (dcomp (own.map (·.2)) Fi gF T Fk Fv) := by
  obtain ⟨is, h1, h2⟩ := b.sg
  exact ⟨pe_dc hc hN hi.1 b.ok b.pg (fun s H C cl fp => (b.pt s H C cl fp).1) (fun s H C cl fp => (hkx s H C cl fp).1) (fun s H C cl fp => (b.pe s H C cl fp).1) hs, so_dc hi.2 h1 h2 (b.pt X.s_0 X.H_0 0 [] []).2 (hkx X.s_0 X.H_0 0 [] []).2 (b.pe X.s_0 X.H_0 0 [] []).2⟩
end
/-! ### d[k] = v, d hot -/
def hotK (S : Sto) (i : Nat) : Option (List (Key × D)) := match S[i]? with
  | some (.dic l) => some l
  | _ => none
theorem hotK_eq {S : Sto} {i : Nat} {l : List (Key × D)} (h : hotK S i = some l) : S[i]? = some (.dic l) := by
  unfold hotK at h
  split at h
  · rename_i q; rw [q]; cases h; rfl
  · cases h
def hotT (S : Sto) (i : Nat) : Option (List (List Key × D)) := match S[i]? with
  | some (.dit l) => some l
  | _ => none
theorem hotT_eq {S : Sto} {i : Nat} {l : List (List Key × D)} (h : hotT S i = some l) : S[i]? = some (.dit l) := by
  unfold hotT at h
  split at h
  · rename_i q; rw [q]; cases h; rfl
  · cases h
/-- the store behind d[y] = z -/
def putS (S : Sto) (x y z : D) : Option Sto := match x with
  | .hot i => (match hotK S i with
    | some l => (match keyD y with
      | some k => if l.length < 100000 then some (S.set i (.dic (putA l k z))) else none
      | none => none)
    | none => (match hotT S i, y with
      | some l, .tup ks => (match keysD ks with
        | some k => if l.length < 100000 then some (S.set i (.dit (putA l k z))) else none
        | none => none)
      | _, _ => none))
  | _ => none
theorem put_rp {η B : List Addr} {S S' : Sto} {H : Hp} {x y z : D} {u v q : V} (w : Wd η B S H) (rx : Rp η (cold B H) x u) (ry : Rp η (cold B H) y v) (rz : Rp η (cold B H) z q) (h : putS S x y z = some S') : ∃ a H', u = .ref a ∧ DPut H a v q H' ∧ Nx η B η B S' H H' := by
  unfold putS at h
  cases x <;> first | (cases h; done) | skip
  rename_i i
  dsimp only at h
  cases hK : hotK S i with
  | some l =>
    rw [hK] at h
    dsimp only at h
    cases hk : keyD y with
    | none => rw [hk] at h; cases h
    | some k =>
      rw [hk] at h
      dsimp only at h
      split at h
      · rename_i hl
        cases h
        obtain ⟨a, rfl, hη, ws, ha, ra⟩ := w.hotAt rx (hotK_eq hK)
        obtain rfl := keyD_rp hk ry
        have ra := rpK_iff.mp ra
        exact ⟨a, _, rfl, .inl ⟨ws, k, ha, rfl, by rw [ra.length]; exact Nat.lt_of_lt_of_le hl (by decide), rfl⟩, w.setHot hη (u := .dic _) ⟨_, upd_same, rpK_iff.mpr (ra.put rz)⟩⟩
      · cases h
  | none =>
    rw [hK] at h
    dsimp only at h
    cases hT : hotT S i with
    | none => rw [hT] at h; cases h
    | some l =>
      rw [hT] at h
      cases y <;> first | (cases h; done) | skip
      rename_i ks
      dsimp only at h
      cases hk : keysD ks with
      | none => rw [hk] at h; cases h
      | some k =>
        rw [hk] at h
        dsimp only at h
        split at h
        · rename_i hl
          cases h
          obtain ⟨a, rfl, hη, ws, ha, ra⟩ := w.hotAt rx (hotT_eq hT)
          obtain ⟨b, us, rfl, hb, rl⟩ := ry
          have e := keysD_rp hk rl
          subst e
          have ra := rpT_iff.mp ra
          exact ⟨a, _, rfl, .inr ⟨ws, k, b, ha, rfl, (cold_of hb).1, by rw [ra.length]; exact Nat.lt_of_lt_of_le hl (by decide), rfl⟩, w.setHot hη (u := .dit _) ⟨_, upd_same, rpT_iff.mpr (ra.put rz)⟩⟩
        · cases h
section
variable {X : Cx} {E : EK} {o i e : Expr} {pos pos' : Pos} {td ty tv : TE} {Fo Fi Fe : Env → Sto → Res D}
@[simp] def fDPut (Fe Fo Fi : Env → Sto → Res D) : Env → Sto → Flow := fun ρ S => (Fe ρ S).flow ρ fun z S1 => (Fo ρ S1).flow ρ fun x S2 => (Fi ρ S2).flow ρ fun y S3 => match putS S3 x y z with
  | some S' => .nx ρ S'
  | none => .bad
theorem ds_dput (hu : X.A.units + 64 < cLine) (he : DE X E e tv Fe) (ho : DE X E o td Fo) (hi : DE X E i ty Fi) (hs : swapsWith e (some (.Subscript o i pos')) pos.line X.env = pure false := by rfl) : DS X E (.Assign [.Subscript o i pos'] e pos) (sDPut td ty tv) (fDPut Fe Fo Fi) := by
  refine ⟨ps_dput (by omega) ho.1 hi.1 he.1 hs, fun η B S σ ρ H w s => ?_⟩
  refine Sv.of s (T := tv σ H) (T' := fun v H1 D => td σ H1 fun x H2 => ty σ H2 fun y H3 => ∃ a H4, x = .ref a ∧ DPut H3 a y v H4 ∧ D.nx σ H4) (he.2 η B S σ ρ H w s) fun z S1 q η1 B1 H1 n1 r1 => ?_
  refine Sv.of (n1.sl s) (T := td σ H1) (T' := fun x H2 D => ty σ H2 fun y H3 => ∃ a H4, x = .ref a ∧ DPut H3 a y q H4 ∧ D.nx σ H4) (ho.2 η1 B1 S1 σ ρ H1 n1.wd (n1.sl s)) fun x S2 u η2 B2 H2 n2 r2 => ?_
  refine Sv.of (n2.sl (n1.sl s)) (T := ty σ H2) (T' := fun y H3 D => ∃ a H4, u = .ref a ∧ DPut H3 a y q H4 ∧ D.nx σ H4) (hi.2 η2 B2 S2 σ ρ H2 n2.wd (n2.sl (n1.sl s))) fun y S3 v η3 B3 H3 n3 r3 => ?_
  split
  · rename_i S' hp
    obtain ⟨a, H4, rfl, dp, nn⟩ := put_rp n3.wd (n3.rp r2) r3 (n3.rp (n2.rp r1)) hp
    exact fun D k => ⟨a, H4, rfl, dp, k σ _ _ H4 nn (nn.sl (n3.sl (n2.sl (n1.sl s))))⟩
  · trivial
end
end DL
set_option Elab.async false
set_option linter.all false
set_option maxRecDepth 100000
set_option maxHeartbeats 4000000
set_option autoImplicit false
namespace DL
open PySem PySem.Spec PyProof.Rows L2
/-! ### [e for x in xs for y in ys] -/
def lc2F (gF : D → Env → Option Env) (T : Env → Sto → Res Bool) (Fi1 : Env → Sto → Res (List D)) (gF1 : D → Env → Option Env) (T1 : Env → Sto → Res Bool) (F : Env → Sto → Res D) (vs1 : List Nat) (ρ : Env) : List D → Sto → List D → Res (List D)
  | [], S, acc => .ok acc S
  | d :: ds, S, acc => match gF d ρ with
    | none => .bad
    | some ρ1 => match T ρ1 S with
      | .ok true S1 => (match Fi1 ρ1 S1 with
        | .ok items1 S2 => if acc.length + items1.length ≤ 100000 then (match lcF gF1 T1 F (wipeE ρ1 vs1) items1 S2 acc with
          | .ok acc' S3 => lc2F gF T Fi1 gF1 T1 F vs1 ρ ds S3 acc'
          | _ => .bad) else .bad
        | _ => .bad)
      | .ok false S1 => lc2F gF T Fi1 gF1 T1 F vs1 ρ ds S1 acc
      | _ => .bad
def lcomp2 (vs vs1 : List Nat) (Fi : Env → Sto → Res (List D)) (gF : D → Env → Option Env) (T : Env → Sto → Res Bool) (Fi1 : Env → Sto → Res (List D)) (gF1 : D → Env → Option Env) (T1 : Env → Sto → Res Bool) (F : Env → Sto → Res D) : Env → Sto → Res D := fun ρ S =>
  (Fi ρ S).bind fun items S1 => (lc2F gF T Fi1 gF1 T1 F vs1 (wipeE ρ vs) items S1 []).bind (fun ds S2 => .ok (.lst ds) S2)
/-- the turns of a comprehension's last clause; D the list that is made -/
theorem lc_turns {J : It} {g : TG} {is vs : List Nat} {gF : D → Env → Option Env} {tt : TT} {te : TE} {T : Env → Sto → Res Bool} {F : Env → Sto → Res D} (hg : SoG g is gF) (his : ∀ i ∈ is, i ∈ vs) (ht : SoT EN tt T) (he : SoE EN te F)
    {η0 B0 η B : List Addr} {S Sf : Sto} {σ : L2.St} {ρ : Env} {H0 H : Hp} {items acc0 res : List D} {D : Addr} {xs0 : List V} (n0 : Nx η0 B0 η B S H0 H) (hD : H0 D = none) (dB : D ∈ B) (dη : D ∉ η) (hx0 : H D = some (.lst xs0)) (rx0 : RpL η (cold B H) acc0 xs0)
    (s1 : Sl η (cold B H) σ ρ) (ri : RI η (cold B H) items J) (hn : acc0.length + items.length ≤ 100000) (hR : lcF gF T F (wipeE ρ vs) items S acc0 = .ok res Sf) {Nn : Hp → Prop}
    (k : ∀ η' B' H' xs', Nx η0 B0 η' B' Sf H0 H' → D ∈ B' → D ∉ η' → H' D = some (.lst xs') → RpL η' (cold B' H') res xs' → res.length ≤ acc0.length + items.length → Nn H') :
    ∃ W : Nat → Nat → Hp → Prop, (∃ m, W 0 m H) ∧ ∀ i m H, W i m H → (J.stop i H ∧ Nn H) ∨ (J.go i H ∧ ∃ Nx : Hp → Prop, (∀ H', Nx H' → ∃ m', m' < m ∧ W (i + 1) m' H') ∧ ∀ x H', J.yld i H x H' → g x (L2.wipe σ vs) H' fun σ2 H2 => L2.wipe σ2 vs = L2.wipe σ vs ∧ tt σ2 H2 fun b H3 =>
        if b = true then te σ2 H3 fun y H4 => ∃ acc, H4 D = some (.lst acc) ∧ acc.length < sizeLine ∧ Nx (upd H4 D (.lst (acc ++ [y]))) else Nx H3) := by
  obtain ⟨G, Y, wk, hG, hY⟩ := ri
  have far : ∀ {ηi Bi : List Addr} {Si : Sto} {H' : Hp}, Up η ηi → Same (cold B H) (cold Bi H') → Sl ηi (cold Bi H') σ ρ := fun u sm => s1.le (.of sm) u
  refine it_walk wk (fun i H' => ∃ (ηi Bi : List Addr) (Si : Sto) (acc : List DL.D) (xs : List V), lcF gF T F (wipeE ρ vs) (items.drop i) Si acc = .ok res Sf ∧ acc.length ≤ acc0.length + i ∧ Nx η0 B0 ηi Bi Si H0 H' ∧ Up η ηi ∧ Same (cold B H) (cold Bi H') ∧ D ∈ Bi ∧ D ∉ ηi ∧ H' D = some (.lst xs) ∧ RpL ηi (cold Bi H') acc xs) ?_ ?_ ?_ ?_
  · exact ⟨η, B, S, acc0, xs0, hR, Nat.le_refl _, n0, .refl η, fun _ _ e => e, dB, dη, hx0, rx0⟩
  · rintro i H' _ ⟨ηi, Bi, Si, acc, xs, _, _, n', u', sm, _, _, hx, _⟩
    exact hG ηi Bi Si H' u' n'.wd sm
  · rintro i x H' H'' hi ⟨ηi, Bi, Si, acc, xs, hr, hl, n', u', sm, dB, dη, hx, rx⟩ y
    obtain ⟨n2, d, hd, rd⟩ := hY ηi Bi Si H' i x H'' u' n'.wd sm hi y
    have hdrop : items.drop i = d :: items.drop (i + 1) := by
      rw [List.drop_eq_getElem_cons hi]
      congr 1
      rw [List.getElem?_eq_getElem hi] at hd
      exact Option.some.inj hd
    rw [hdrop] at hr
    unfold lcF at hr
    cases hg1 : gF d (wipeE ρ vs) with
    | none => rw [hg1] at hr; cases hr
    | some ρ1 =>
      rw [hg1] at hr
      dsimp only at hr
      have sw : Sl ηi (cold Bi H'') (L2.wipe σ vs) (wipeE ρ vs) := n2.sl ((s1.le (.of sm) u').wipe vs)
      refine hg ηi Bi Si H'' d x _ _ ρ1 n2.wd sw rd hg1 _ fun σ2 s2 hw => ⟨(hw vs his).trans (wipe_idem vs σ), ?_⟩
      have hD2 : H'' D = some (.lst xs) := n2.kp D _ dη hx
      have sm2 : Same (cold B H) (cold Bi H'') := fun a o e => n2.same _ _ (sm _ _ e)
      cases ht1 : T ρ1 Si with
      | bad => rw [ht1] at hr; cases hr
      | exc C fs S' => rw [ht1] at hr; cases hr
      | ok b S2 =>
        rw [ht1] at hr
        have z := ht ηi Bi Si σ2 ρ1 H'' n2.wd s2
        rw [ht1] at z
        refine z _ fun b' η3 B3 H3 n3 eb => ?_
        subst eb
        have hD3 : H3 D = some (.lst xs) := n3.kp D _ dη hD2
        have dη3 : D ∉ η3 := n3.far dη (by rw [hD2]; exact fun z => nomatch z)
        have sm3 : Same (cold B H) (cold B3 H3) := fun a o e => n3.same _ _ (sm2 _ _ e)
        cases b with
        | false =>
          refine iteF ⟨η3, B3, S2, acc, xs, hr, by omega, (n'.trans n2).trans n3, u'.trans n3.up, sm3, n3.sb D dB, dη3, hD3, n3.rpL (n2.rpL rx)⟩
        | true =>
          dsimp only at hr
          refine iteT ?_
          cases hf : F ρ1 S2 with
          | bad => rw [hf] at hr; cases hr
          | exc C fs S' => rw [hf] at hr; cases hr
          | ok yd S4 =>
            rw [hf] at hr
            have z := he η3 B3 S2 σ2 ρ1 H3 n3.wd (n3.sl s2)
            rw [hf] at z
            refine z _ fun v η4 B4 H4 n4 r4 => ?_
            have dη4 : D ∉ η4 := n4.far dη3 (by rw [hD3]; exact fun z => nomatch z)
            have dB4 : D ∈ B4 := n4.sb D (n3.sb D dB)
            have rx4 : RpL η4 (cold B4 H4) acc xs := n4.rpL (n3.rpL (n2.rpL rx))
            refine ⟨xs, n4.kp D _ dη3 hD3, ?_, η4, B4, S4, acc ++ [yd], xs ++ [v], hr, ?_, (((n'.trans n2).trans n3).trans n4).put hD dB4 dη4, (u'.trans n3.up).trans n4.up, ?_, dB4, dη4, upd_same, ?_⟩
            · rw [rx.length]
              exact Nat.lt_of_lt_of_le (show acc.length < 100000 by omega) (size_ok (Nat.le_refl _))
            · rw [List.length_append]
              show acc.length + 1 ≤ _
              omega
            · rw [cold_put dB4]
              exact fun a o e => n4.same _ _ (sm3 _ _ e)
            · rw [cold_put dB4]
              exact rx4.snoc r4
  · rintro H' ⟨ηi, Bi, Si, acc, xs, hr, hl, n', u', sm, dB, dη, hx, rx⟩
    rw [List.drop_length] at hr
    cases hr
    exact k ηi Bi H' xs n' dB dη hx rx hl
theorem lc2_noexc {gF gF1 : D → Env → Option Env} {T T1 : Env → Sto → Res Bool} {Fi1 : Env → Sto → Res (List D)} {F : Env → Sto → Res D} {vs1 : List Nat} {ρ : Env} : ∀ (ds : List D) (S : Sto) (acc : List D) (C : Addr) (fs : List (Str × D)) (S' : Sto), lc2F gF T Fi1 gF1 T1 F vs1 ρ ds S acc ≠ .exc C fs S' := by
  intro ds
  induction ds with
  | nil => intro S acc C fs S' z; cases z
  | cons d ds ih =>
    intro S acc C fs S' z
    unfold lc2F at z
    split at z
    · cases z
    · split at z
      · split at z
        · split at z
          · split at z
            · exact ih _ _ _ _ _ z
            · cases z
          · cases z
        · cases z
      · exact ih _ _ _ _ _ z
      · cases z
section
variable {X : Cx} {E : EK} {tg iter tg1 iter1 elt : Expr} {ifs ifs1 : List Expr} {scope : Scope} {own : List (Str × Nat)} {pos : Pos} {wi wi1 : TI} {g g1 : TG} {tt tt1 : TT} {te : TE} {Fi Fi1 : Env → Sto → Res (List D)} {gF gF1 : D → Env → Option Env} {T T1 : Env → Sto → Res Bool} {F : Env → Sto → Res D} {is is1 : List Nat}
theorem so_lc2 {vs vs1 : List Nat} (hi : SoI E wi Fi) (hg : SoG g is gF) (his : ∀ i ∈ is, i ∈ vs) (ht : SoT EN tt T) (hi1 : SoI EN wi1 Fi1) (hg1 : SoG g1 is1 gF1) (his1 : ∀ i ∈ is1, i ∈ vs1) (ht1 : SoT EN tt1 T1) (he : SoE EN te F) : SoE E (tLc2 wi g tt wi1 g1 tt1 te vs vs1) (lcomp2 vs vs1 Fi gF T Fi1 gF1 T1 F) := fun η B S σ ρ H w s => by
  unfold lcomp2
  refine Ev.bind (R := RI) (T := wi σ H) (T' := fun (J : It) (H1 : Hp) (Q : VK) => ∀ D, H1 D = none → ∃ W : Nat → Nat → Hp → Prop, (∃ m, W 0 m (upd H1 D (.lst []))) ∧ ∀ i m H, W i m H →
    (J.stop i H ∧ Q (V.ref D) H) ∨ (J.go i H ∧ ∃ Nx : Hp → Prop, (∀ H', Nx H' → ∃ m', m' < m ∧ W (i + 1) m' H') ∧ ∀ x H', J.yld i H x H' → g x (L2.wipe σ vs) H' fun σ2 H2 => L2.wipe σ2 vs = L2.wipe σ vs ∧ tt σ2 H2 fun b H3 =>
    if b = true then wi1 σ2 H3 fun J1 H4 => ∃ W1 : Nat → Nat → Hp → Prop, (∃ m, W1 0 m H4) ∧ ∀ j k H, W1 j k H →
      (J1.stop j H ∧ Nx H) ∨ (J1.go j H ∧ ∃ Nx1 : Hp → Prop, (∀ H', Nx1 H' → ∃ k', k' < k ∧ W1 (j + 1) k' H') ∧ ∀ x H', J1.yld j H x H' → g1 x (L2.wipe σ2 vs1) H' fun σ3 H5 => L2.wipe σ3 vs1 = L2.wipe σ2 vs1 ∧ tt1 σ3 H5 fun b H6 =>
        if b = true then te σ3 H6 fun y H7 => ∃ acc, H7 D = some (.lst acc) ∧ acc.length < sizeLine ∧ Nx1 (upd H7 D (.lst (acc ++ [y]))) else Nx1 H6)
    else Nx H3)) (hi η B S σ ρ H w s) fun items S1 J η1 B1 H1 n1 r1 => ?_
  obtain ⟨G, Y, wk, hG, hY⟩ := r1
  cases hR : lc2F gF T Fi1 gF1 T1 F vs1 (wipeE ρ vs) items S1 [] with
  | bad => trivial
  | exc C fs S' => exact absurd hR (lc2_noexc _ _ _ _ _ _)
  | ok res Sf =>
    intro Q k D hD
    have nDη : D ∉ η1 := fun z => n1.wd.live D (n1.wd.sub D z) hD
    have nDB : D ∉ B1 := n1.wd.fresh hD
    refine it_walk wk (fun i H' => ∃ (ηi Bi : List Addr) (Si : Sto) (acc : List DL.D) (xs : List V), lc2F gF T Fi1 gF1 T1 F vs1 (wipeE ρ vs) (items.drop i) Si acc = .ok res Sf ∧ Nx η1 B1 ηi Bi Si H1 H' ∧ D ∈ Bi ∧ D ∉ ηi ∧ H' D = some (.lst xs) ∧ RpL ηi (cold Bi H') acc xs) ?_ ?_ ?_ ?_
    · exact ⟨η1, D :: B1, S1, [], [], hR, n1.wd.hide hD, List.mem_cons_self, nDη, upd_same, rfl⟩
    · rintro i H' _ ⟨ηi, Bi, Si, acc, xs, _, n', _, _, hx, _⟩
      exact hG ηi Bi Si H' n'.up n'.wd n'.same
    · rintro i x H' H'' hi ⟨ηi, Bi, Si, acc, xs, hr, n', dB, dη, hx, rx⟩ y
      obtain ⟨n2, d, hd, rd⟩ := hY ηi Bi Si H' i x H'' n'.up n'.wd n'.same hi y
      have hdrop : items.drop i = d :: items.drop (i + 1) := by
        rw [List.drop_eq_getElem_cons hi]
        congr 1
        rw [List.getElem?_eq_getElem hi] at hd
        exact Option.some.inj hd
      rw [hdrop] at hr
      unfold lc2F at hr
      cases hgg : gF d (wipeE ρ vs) with
      | none => rw [hgg] at hr; cases hr
      | some ρ1 =>
        rw [hgg] at hr
        dsimp only at hr
        have sw : Sl ηi (cold Bi H'') (L2.wipe σ vs) (wipeE ρ vs) := n2.sl (n'.sl ((n1.sl s).wipe vs))
        refine hg ηi Bi Si H'' d x _ _ ρ1 n2.wd sw rd hgg _ fun σ2 s2 hw => ⟨(hw vs his).trans (wipe_idem vs σ), ?_⟩
        have hD2 : H'' D = some (.lst xs) := n2.kp D _ dη hx
        cases htt : T ρ1 Si with
        | bad => rw [htt] at hr; cases hr
        | exc C fs S' => rw [htt] at hr; cases hr
        | ok b S2 =>
          rw [htt] at hr
          have z := ht ηi Bi Si σ2 ρ1 H'' n2.wd s2
          rw [htt] at z
          refine z _ fun b' η3 B3 H3 n3 eb => ?_
          subst eb
          have hD3 : H3 D = some (.lst xs) := n3.kp D _ dη hD2
          have dη3 : D ∉ η3 := n3.far dη (by rw [hD2]; exact fun z => nomatch z)
          cases b with
          | false => exact iteF ⟨η3, B3, S2, acc, xs, hr, (n'.trans n2).trans n3, n3.sb D dB, dη3, hD3, n3.rpL (n2.rpL rx)⟩
          | true =>
            dsimp only at hr
            refine iteT ?_
            cases hii : Fi1 ρ1 S2 with
            | bad => rw [hii] at hr; cases hr
            | exc C fs S' => rw [hii] at hr; cases hr
            | ok items1 S4 =>
              rw [hii] at hr
              dsimp only at hr
              split at hr
              · rename_i hlen
                cases hin : lcF gF1 T1 F (wipeE ρ1 vs1) items1 S4 acc with
                | bad => rw [hin] at hr; cases hr
                | exc C fs S' => rw [hin] at hr; cases hr
                | ok acc' S5 =>
                  rw [hin] at hr
                  dsimp only at hr
                  have z := hi1 η3 B3 S2 σ2 ρ1 H3 n3.wd (n3.sl s2)
                  rw [hii] at z
                  refine z _ fun J1 η4 B4 H4 n4 r4 => ?_
                  have hD4 : H4 D = some (.lst xs) := n4.kp D _ dη3 hD3
                  have dη4 : D ∉ η4 := n4.far dη3 (by rw [hD3]; exact fun z => nomatch z)
                  exact lc_turns hg1 his1 ht1 he (((n'.trans n2).trans n3).trans n4) hD (n4.sb D (n3.sb D dB)) dη4 hD4 (n4.rpL (n3.rpL (n2.rpL rx))) (n4.sl (n3.sl s2)) r4 hlen hin
                    fun η' B' H'' xs' nn dB' dη' hx' rx' _ => ⟨η', B', S5, acc', xs', hr, nn, dB', dη', hx', rx'⟩
              · cases hr
    · rintro H' ⟨ηi, Bi, Si, acc, xs, hr, n', dB, dη, hx, rx⟩
      rw [List.drop_length] at hr
      cases hr
      exact k _ _ _ _ (n'.unhide hD nDB dη) ⟨D, xs, rfl, cold_in hx (fun z => (mem_un.mp z).2 rfl), RpL.le (.of (cold_sub fun a h => (mem_un.mp h).1)) (.refl _) _ rx⟩
/-- the parts of a block with two clauses -/
structure Blk2 (X : Cx) (scope : Scope) (own : List (Str × Nat)) (vs1 : List Nat) (tg : Expr) (ifs : List Expr) (tg1 iter1 : Expr) (ifs1 : List Expr) (elt : Expr) (g : TG) (tt : TT) (wi1 : TI) (g1 : TG) (tt1 : TT) (te : TE) (gF : D → Env → Option Env) (T : Env → Sto → Res Bool) (Fi1 : Env → Sto → Res (List D)) (gF1 : D → Env → Option Env) (T1 : Env → Sto → Res Bool) (F : Env → Sto → Res D) : Prop where
  ok : BlkOk X.N X.env.scope scope own
  pg : ∀ (s : Shared) (H : Hp) (C : Addr) (cl : List (Str × Addr)) (fp : List Addr), PG (X.blk s H scope (compEnvC scope cl C X.env) fp) tg g
  pt : ∀ (s : Shared) (H : Hp) (C : Addr) (cl : List (Str × Addr)) (fp : List Addr), DTs (X.blk s H scope (compEnvC scope cl C X.env) fp) EN ifs tt T
  pi : ∀ (s : Shared) (H : Hp) (C : Addr) (cl : List (Str × Addr)) (fp : List Addr), DI (X.blk s H scope (compEnvC scope cl C X.env) fp) EN tg1 iter1 wi1 Fi1
  pg1 : ∀ (s : Shared) (H : Hp) (C : Addr) (cl : List (Str × Addr)) (fp : List Addr), PG (X.blk s H scope (compEnvC scope cl C X.env) fp) tg1 g1
  pt1 : ∀ (s : Shared) (H : Hp) (C : Addr) (cl : List (Str × Addr)) (fp : List Addr), DTs (X.blk s H scope (compEnvC scope cl C X.env) fp) EN ifs1 tt1 T1
  pe : ∀ (s : Shared) (H : Hp) (C : Addr) (cl : List (Str × Addr)) (fp : List Addr), DE (X.blk s H scope (compEnvC scope cl C X.env) fp) EN elt te F
  sg : ∃ is, SoG g is gF ∧ ∀ i ∈ is, i ∈ own.map (·.2)
  sg1 : ∃ is, SoG g1 is gF1 ∧ ∀ i ∈ is, i ∈ vs1
  sub : ∀ i ∈ vs1, i ∈ own.map (·.2)
theorem Blk2.so {vs1 : List Nat} (b : Blk2 X scope own vs1 tg ifs tg1 iter1 ifs1 elt g tt wi1 g1 tt1 te gF T Fi1 gF1 T1 F) (hi : SoI E wi Fi) : SoE E (tLc2 wi g tt wi1 g1 tt1 te (own.map (·.2)) vs1) (lcomp2 (own.map (·.2)) vs1 Fi gF T Fi1 gF1 T1 F) := by
  obtain ⟨is, h1, h2⟩ := b.sg
  obtain ⟨is1, h3, h4⟩ := b.sg1
  exact so_lc2 hi h1 h2 (b.pt X.s_0 X.H_0 0 [] []).2 (b.pi X.s_0 X.H_0 0 [] []).2 h3 h4 (b.pt1 X.s_0 X.H_0 0 [] []).2 (b.pe X.s_0 X.H_0 0 [] []).2
theorem de_lc2 {vs1 : List Nat} (b : Blk2 X scope own vs1 tg ifs tg1 iter1 ifs1 elt g tt wi1 g1 tt1 te gF T Fi1 gF1 T1 F) (hi : DI X E tg iter wi Fi) (hc : X.calm = true := by rfl) (hN : X.N.Nodup) (hs : ∀ x, foldedSetIterable iter X.env x = pure x := by intro _; rfl) (hs1 : ∀ env x, foldedSetIterable iter1 env x = pure x := by intro _ _; rfl) :
    DE X E (.ListComp elt [⟨tg, iter, ifs, 0⟩, ⟨tg1, iter1, ifs1, 0⟩] scope pos) (tLc2 wi g tt wi1 g1 tt1 te (own.map (·.2)) vs1) (lcomp2 (own.map (·.2)) vs1 Fi gF T Fi1 gF1 T1 F) :=
  ⟨pe_lc2 hc hN hi.1 b.ok b.sub b.pg (fun s H C cl fp => (b.pt s H C cl fp).1) (fun s H C cl fp => (b.pi s H C cl fp).1) b.pg1 (fun s H C cl fp => (b.pt1 s H C cl fp).1) (fun s H C cl fp => (b.pe s H C cl fp).1) hs hs1, b.so hi.2⟩
theorem ds_setLc2 (i : Nat) {y : Str} {py spos : Pos} {vs1 : List Nat} (b : Blk2 X scope own vs1 tg ifs tg1 iter1 ifs1 elt g tt wi1 g1 tt1 te gF T Fi1 gF1 T1 F) (hi : DI X E tg iter wi Fi) (hN : X.N.Nodup) (hc : X.calm = true := by rfl) (hy : X.N[i]? = some y := by rfl) (hyl : X.env.scope.names.lookup y = some .local := by rfl)
    (hsw : swapsWith (.ListComp elt [⟨tg, iter, ifs, 0⟩, ⟨tg1, iter1, ifs1, 0⟩] scope pos) (some (.Name y py)) spos.line X.env = pure true := by exact sw_true rfl rfl rfl (by decide +kernel)) (hs : ∀ x, foldedSetIterable iter X.env x = pure x := by intro _; rfl) (hs1 : ∀ env x, foldedSetIterable iter1 env x = pure x := by intro _ _; rfl) :
    DS X E (.Assign [.Name y py] (.ListComp elt [⟨tg, iter, ifs, 0⟩, ⟨tg1, iter1, ifs1, 0⟩] scope pos) spos) (tAsg (tLc2 wi g tt wi1 g1 tt1 te (own.map (·.2)) vs1) (gName i)) (fSet i (lcomp2 (own.map (·.2)) vs1 Fi gF T Fi1 gF1 T1 F)) :=
  ⟨ps_setLc2 hc hN hy hyl hsw hi.1 b.ok b.sub b.pg (fun s H C cl fp => (b.pt s H C cl fp).1) (fun s H C cl fp => (b.pi s H C cl fp).1) b.pg1 (fun s H C cl fp => (b.pt1 s H C cl fp).1) (fun s H C cl fp => (b.pe s H C cl fp).1) hs hs1, so_set (b.so hi.2)⟩
end
/-! ### *e among arguments and items -/
section
variable {X : Cx} {E : EK} {e : Expr} {es : List Expr} {te : TE} {tas : TA} {F : Env → Sto → Res D} {Fs : Env → Sto → Res (List D)} {p pos : Pos}
def seqD (S : Sto) : D → Option (List D)
  | .tup l => some l
  | d => vL S d
@[simp] def starA (F : Env → Sto → Res D) (G : Env → Sto → Res (List D)) : Env → Sto → Res (List D) := fun ρ S => (F ρ S).bind fun d S1 => match seqD S1 d with
  | some l => (G ρ S1).bind fun ds S2 => .ok (l ++ ds) S2
  | none => .bad
theorem see_seq {K : PySem.W.Frag} {η B : List Addr} {S : Sto} {H : Hp} {d : D} {v : V} {l : List D} (w : Wd η B S H) (r : Rp η (cold B H) d v) (h : seqD S d = some l) : ∃ a xs, v = .ref a ∧ (SqT K H a xs ∨ SqL K H a xs) ∧ RpL η (cold B H) l xs := by
  unfold seqD at h
  split at h
  · cases h
    obtain ⟨a, xs, e, ha, ra⟩ := r
    exact ⟨a, xs, e, .inl (.inl (.inl (cold_of ha).1)), ra⟩
  · obtain ⟨a, xs, e, ha, ra⟩ := w.seeL r h
    exact ⟨a, xs, e, .inr (.inl (.inl ha)), ra⟩
theorem da_star {K : PySem.W.Frag} (he : DE X E e te F) (hr : DA X E es tas Fs) (hK : X.K = K := by rfl) (hs : starEach (.Starred e p :: es) X.env = (true, eval e X.env) :: starEach es X.env := by rfl) : DA X E (.Starred e p :: es) (StX.tStar K te tas) (starA F Fs) := by
  subst hK
  refine ⟨StX.pa_star he.1 hr.1 hs, fun η B S σ ρ H w s => ?_⟩
  refine Ev.bind (T := te σ H) (T' := fun y H1 Q => ∃ a xs, y = .ref a ∧ (SqT X.K H1 a xs ∨ SqL X.K H1 a xs) ∧ tas σ H1 fun vs H2 => Q (xs ++ vs) H2) (he.2 η B S σ ρ H w s) fun d S1 v η1 B1 H1 n1 r1 => ?_
  split
  · rename_i l hl
    obtain ⟨a, xs, rfl, ha, ra⟩ := see_seq (K := X.K) n1.wd r1 hl
    have z := Ev.bind (R := fun η Hc d v => RpL η Hc d v) (R' := fun η Hc d v => RpL η Hc d v) (T := tas σ H1) (T' := fun vs H2 Q => Q (xs ++ vs) H2) (k := fun ds S2 => Res.ok (l ++ ds) S2) (hr.2 η1 B1 S1 σ ρ H1 n1.wd (n1.sl s)) fun ds S2 vs η2 B2 H2 n2 r2 => Ev.now n2.wd ((n2.rpL ra).append r2)
    revert z
    generalize (Res.bind (Fs ρ S1) fun ds S2 => Res.ok (l ++ ds) S2) = rr
    intro z
    cases rr with
    | bad => trivial
    | ok d S' => exact fun Q k => ⟨a, xs, rfl, ha, z Q k⟩
    | exc C fs S' => exact fun Q k => ⟨a, xs, rfl, ha, z Q k⟩
  · trivial
end
/-! ### f'..' -/
def fmtD : D → Option Str
  | .str y => if y.length ≤ 100000 then some y else none
  | .int i => if i.natAbs.log2 < 1920 then some (toString i) else none
  | _ => none
section
variable {X : Cx} {E : EK} {e v1 v2 : Expr} {es rest : List Expr} {te : TE} {ts : List TE} {F : Env → Sto → Res D} {pos : Pos}
@[simp] def fFmt (F : Env → Sto → Res D) : Env → Sto → Res D := fun ρ S => (F ρ S).bind fun d S1 => lift ((fmtD d).map .str) S1
theorem de_fmt (h : DE X E e te F) : DE X E (.FormattedValue e (-1) none pos) (tFmt te) (fFmt F) := by
  refine ⟨pe_fmt h.1, fun η B S σ ρ H w s => ?_⟩
  refine Ev.bind (T := te σ H) (T' := fun x H1 Q => (∃ y : Str, x = .str y ∧ y.length ≤ sizeLine ∧ Q (V.str y) H1) ∨ ∃ i : Int, x = .int i ∧ i.natAbs.log2 < 1920 ∧ Q (V.str (toString i)) H1) (h.2 η B S σ ρ H w s) fun d S1 v η1 B1 H1 n1 r1 => ?_
  unfold fmtD
  split
  · obtain rfl := r1
    split
    · rename_i hz
      exact fun Q k => .inl ⟨_, rfl, size_ok hz, k _ η1 B1 H1 n1.wd.refl rfl⟩
    · trivial
  · obtain rfl := r1
    split
    · rename_i hz
      exact fun Q k => .inr ⟨_, rfl, hz, k _ η1 B1 H1 n1.wd.refl rfl⟩
    · trivial
  · trivial
/-- the parts of an f-string -/
def DJ (X : Cx) (E : EK) (es : List Expr) (ts : List TE) (F : Str → Env → Sto → Res D) : Prop := PJ X es ts ∧ ∀ acc η B S σ ρ H, Wd η B S H → Sl η (cold B H) σ ρ → EvD η B (E σ) (fun Q => tJs ts acc σ H fun out H1 => Q (.str out) H1) H (F acc ρ S)
@[simp] def jNil : Str → Env → Sto → Res D := fun acc _ S => .ok (.str acc) S
@[simp] def jCons (F : Env → Sto → Res D) (G : Str → Env → Sto → Res D) : Str → Env → Sto → Res D := fun acc ρ S => (F ρ S).bind fun d S1 => match d with
  | .str y => if (acc ++ y).length ≤ 100000 then G (acc ++ y) ρ S1 else .bad
  | _ => .bad
variable {G : Str → Env → Sto → Res D}
theorem dj_nil : DJ X E [] [] jNil := ⟨.nil, fun acc η B S σ ρ H w s Q k => k _ η B H w.refl rfl⟩
theorem dj_cons (h : DE X E e te F) (hr : DJ X E es ts G) : DJ X E (e :: es) (te :: ts) (jCons F G) := by
  refine ⟨.cons h.1 hr.1, fun acc η B S σ ρ H w s => ?_⟩
  refine Ev.bind (T := te σ H) (T' := fun x H1 Q => ∃ y : Str, x = .str y ∧ (acc ++ y).length ≤ sizeLine ∧ tJs ts (acc ++ y) σ H1 fun out H2 => Q (V.str out) H2) (h.2 η B S σ ρ H w s) fun d S1 v η1 B1 H1 n1 r1 => ?_
  cases d <;> first | trivial | skip
  rename_i y
  obtain rfl := r1
  dsimp only
  split
  · rename_i hz
    have z := hr.2 (acc ++ y) η1 B1 S1 σ ρ H1 n1.wd (n1.sl s)
    revert z
    generalize G (acc ++ y) ρ S1 = rr
    intro z
    cases rr with
    | bad => trivial
    | ok d S' => exact fun Q k => ⟨y, rfl, size_ok hz, z Q k⟩
    | exc C fs S' => exact fun Q k => ⟨y, rfl, size_ok hz, z Q k⟩
  · trivial
@[simp] def fJoined (G : Str → Env → Sto → Res D) : Env → Sto → Res D := fun ρ S => G Str.empty ρ S
theorem de_joined (h : DJ X E (v1 :: v2 :: rest) ts G) : DE X E (.JoinedStr (v1 :: v2 :: rest) pos) (fun σ H Q => tJs ts Str.empty σ H fun out H1 => Q (.str out) H1) (fJoined G) := ⟨pe_joined h.1, fun η B S σ ρ H w s => h.2 Str.empty η B S σ ρ H w s⟩
end
end DL
set_option Elab.async false
set_option linter.all false
set_option maxRecDepth 100000
set_option maxHeartbeats 4000000
set_option autoImplicit false
namespace DL
open PySem PySem.Spec PyProof.Rows L2
/-! ### own errors over any built-in base B -/
/-- what is to be known of the base -/
structure BaseB (B nw ini : String) (bm : List Value) : Prop where
  facts : ExcBaseFacts B nw ini bm
  pass : ∀ self : Value, refuseLoop self "__setattr__" bm = pure ()
  obj : bm.contains (.type "object") = true
  typ : typeOf (.type B) = pure (.type "type")
/-- what is to be known of the class -/
structure OexB (K : PySem.W.Frag) (C : Addr) (nw : String) (bm : List Value) : Prop where
  cls : ∃ nm q N bs sn sub ab col dd k0 k1 k2 k3 k5, K.lookup C = some (excClassObj nm q C N bs bm true sn sub ab col dd k0 k1 k2 k3 k5 nw)
  sa : PySem.W.findIn K (.ref C) "__setattr__" = some (some (.builtin "object.__setattr__"))
  exC : PySem.W.subIn K (.ref C) (.type "BaseException") = some true
  tyC : PySem.W.typeIn K (.ref C) = some (.type "type")
  kC : PySem.W.keepIn K (.ref C) = true
section
open Builtin Builtin.ObjectAttr
variable {prog : Program} {w : World} {A : Around} {R : Result → Shared → Prop} {hp : Heap} {g : Array GenState} {d : Drawn} {t : Nat} {os : OsState}
theorem first_fld {K : PySem.W.Frag} {name : Str} {tk : Tok} {v : Value} {x C : Addr} {fv : Array Value} {cd : ClassData} {bm : List Value}
    (X : K.In hp) (at_x : hp.get? x = some { cls := .ref C, data := .fields fv }) (hcd : PySem.W.clsIn K C = some cd) (hm : cd.mro = .ref C :: bm) (pass : ∀ self : Value, refuseLoop self "__setattr__" bm = pure ()) (hob : bm.contains (.type "object") = true) (hh : cd.hasDict = true) (no : PySem.W.findIn K (.ref C) name = some none)
    (fin : ∀ h' tk' dx, (∀ b o, b ≠ x → hp.get? b = some o → h'.get? b = some o) → hp.objs.size ≤ dx → dx ≠ x → h'.get? x = some { cls := .ref C, dict := some dx, data := .fields fv } →
      h'.Ns1 dx (fun y => if y = name then some v else none) → R (.ok (.ret .none)) ⟨h', g, d, tk', os⟩) :
    codeAny (model prog w) A (.call (.builtin "object.__setattr__") ⟨[.ref x, .str name tk, v], []⟩) R ⟨hp, g, d, t, os⟩ := by
  have inst : PySem.W.InstAt hp x { cls := .ref C, data := .fields fv } C none := ⟨at_x, rfl, rfl, trivial⟩
  have sto := PySem.F.store_object
  have nonempty : cd.mro.isEmpty = false := by rw [hm]; rfl
  have has : cd.mro.contains (.type "object") = true := by rw [hm, List.contains_cons, hob, Bool.or_true]
  have away : hp.objs.size ≠ x := Ne.symm (Nat.ne_of_lt (Heap.lt_size at_x))
  have isObj : PySem.W.Looks (model prog w) hp (isInstance (.ref x) (.type "object")) true := inst.type.andThen (PySem.W.looks_mroIn X (by unfold PySem.W.mroIn; rw [hcd, Option.bind_some, nonempty, has]; rfl))
  refine codeAny_call_builtin sto.slot.plain sto.entry (@PySem.W.check_slot (model prog w) _ _ ⟨hp, g, d, t, os⟩ "object.__setattr__" "object" "__setattr__" (.ref x) [.str name tk, v] [] _ sto.kind sto.split isObj (sto.args (.ref x) (.str name tk) v) ?_)
  have mros : PySem.W.Looks (model prog w) hp (mroOf (.ref C)) cd.mro := (PySem.W.looks_clsIn X hcd).andThen .now
  have taker : PySem.W.Looks (model prog w) hp (storeTaker? none) none := .now
  have data : PySem.W.Looks (model prog w) hp (classData C) cd := PySem.W.looks_clsIn X hcd
  have go : refuseLoop (.ref x) "__setattr__" cd.mro = pure () := by rw [hm, refuseLoop_ref]; exact pass _
  rw [PySem.W.osa_eq, refuse_eq]
  refine wpAny_bind (wpAny_bind (inst.type.at (wpAny_bind (mros.at ?_))))
  rw [go]
  refine wpAny_pure (wpAny_bind (inst.type.at (wpAny_bind ((PySem.W.looks_findIn X no).at (wpAny_bind (taker.at ?_))))))
  show wpAny _ _ (storeInOwnDict (.ref x) (.ref C) (.str name tk) name v false) _ _ _
  cases cd with
  | mk nm bs mro ns qn hd sn sb ab col del =>
  dsimp only at hh
  subst hh
  unfold storeInOwnDict ownDictForStores
  repeat (first | with_reducible refine PySem.HandSPX.store_in_new ?_ ?_ | with_reducible refine wpAny_loadPart_at at_x ?_ | with_reducible refine data.at ?_ | wp_step)
  · exact ⟨_, #[], _, (Heap.get?_update_ne _ _ _ _ away).trans (Heap.get?_push_at rfl rfl), rfl, fun e he => absurd he (by simp), fun _ => rfl⟩
  · intro h' tk' ns' but
    have at2 : (hp.push { cls := .type "dict", data := .dict #[] }).get? x = some { cls := .ref C, data := .fields fv } := Heap.get?_push_of_some _ at_x
    refine fin h' tk' hp.objs.size (fun b o hb ho => ?_) (Nat.le_refl _) away ?_ ns'
    · exact (but.2 b (Nat.ne_of_lt (Heap.lt_size ho))).trans ((Heap.get?_update_ne _ _ _ _ hb).trans (Heap.get?_push_of_some _ ho))
    · exact (but.2 x (Ne.symm away)).trans (Heap.get?_update_self _ at2 rfl)
end
section
variable {X : Cx} {pins : List (Addr × Obj)} {σ : L2.St} {H : Hp} {s : Shared} {a C : Addr} {f : Str} {y : V} {u : Value} {E : Value → Shared → Prop} {A : Around} {B nw ini : String} {bm : List Value}
theorem own_first {Q : Unit → Shared → Prop} (b : BaseB B nw ini bm) (T : OexB X.K C nw bm) (I : Inv X pins σ H s) (e : H a = some (exo a C none)) (no : PySem.W.findIn X.K (.ref C) f = some none) (ry : RelV y u)
    (fin : ∀ dx s', H dx = none → dx ≠ a → Inv X pins σ (upd (upd H dx (exd dx [(f, y)])) a (exo a C (some dx))) s' → Q () s') : wpAny (model X.prog X.w) A (setAttr (.ref a) f u) Q E s := by
  obtain ⟨nm, q, N, bs, sn, sub, ab, col, dd, k0, k1, k2, k3, k5, hC⟩ := T.cls
  have hcl : PySem.W.clsIn X.K C = some { name := nm, bases := bs, mro := .ref C :: bm, ns := N, qualname := q, hasDict := true, slotNames := sn, subclasses := sub, abstract := ab, collection := col, hasDel := false } := by
    unfold PySem.W.clsIn
    rw [hC] <;> rfl
  obtain ⟨t1, ho⟩ := exo_at I.hok e
  cases s with
  | mk hp g d t os =>
  refine PySem.W.set_plain I.kIn (ox := { cls := .ref C, dict := none, data := .fields #[.ref t1, .none, .none, .none, .bool false, .none] }) (od := none) ⟨ho, rfl, rfl, trivial⟩ T.sa (first_fld I.kIn ho hcl rfl b.pass b.obj rfl no fun h' tk' dx keep new ne hx hn => ?_)
  have free : H dx = none := I.hok.fresh new
  have old : ∀ {c : Addr} {o : Obj}, hp.get? c = some o → c ≠ dx := fun {c o} z => Nat.ne_of_lt (Nat.lt_of_lt_of_le (Heap.lt_size z) new)
  have nota : ∀ {c : Addr}, H c = none → c ≠ a := fun {c} n z => by rw [z, e] at n; cases n
  have un : Un X.fs [] H (upd (upd H dx (exd dx [(f, y)])) a (exo a C (some dx))) hp h' := by
    refine ⟨fun c o z n _ _ => keep c o (nota n) z, fun c o z n _ _ => ⟨o.slots, keep c o (nota n) z⟩, fun c o z n _ => by rw [upd_ne (nota n), upd_ne (old z)]; exact n, fun c o z _ => ?_,
      fun c xs z => by rw [upd_ne (at_ne e z exo_tup), upd_ne (ne_of_none z free)]; exact z, fun c o v z => by rw [upd_ne (at_ne e z exo_frz), upd_ne (ne_of_none z free)]; exact z,
      fun c ps z => ⟨#[], by rw [upd_ne (at_ne e z exo_tbl), upd_ne (ne_of_none z free), z]; simp⟩⟩
    by_cases hc : c = a
    · subst hc; exact ⟨_, hx⟩
    · exact ⟨o, keep c o hc z⟩
  refine fin dx _ free ne (I.un (t' := tk') un fun c o z => ?_)
  by_cases hc : c = a
  · subst hc
    rw [upd_same] at z
    cases z
    exact exo_ok hx
  · rw [upd_ne hc] at z
    by_cases hd : c = dx
    · subst hd
      rw [upd_same] at z
      cases z
      exact exd_ok hn (relO_put (fs := []) ry fun g => True.intro)
    · rw [upd_ne hd] at z
      refine (I.hok c o z).stay (fun r v hr ho => keep r v ?_ ho) (fun r hr => by rw [upd_ne (at_ne e hr exo_own), upd_ne (ne_of_none hr free)]; exact hr) (fun r xs hr => by rw [upd_ne (at_ne e hr exo_tup), upd_ne (ne_of_none hr free)]; exact hr)
      rcases hr with hr | hr
      · rw [hr]; exact hc
      · exact at_ne e hr exo_own
theorem base_init {us : List Value} {Q : Value → Shared → Prop} (b : BaseB B nw ini bm) (T : OexB X.K C nw bm) (I : Inv X pins σ H s) (e : H a = some (exo a C none)) (hl : us.length ≤ sizeLine) (fin : ∀ s', Inv X pins σ H s' → Q .none s') :
    wpAny (model X.prog X.w) A (call (.builtin ini) (.ref a :: us)) Q E s := by
  obtain ⟨nm, q, N, bs, sn, sub, ab, col, dd, k0, k1, k2, k3, k5, hC⟩ := T.cls
  obtain ⟨t1, ho⟩ := exo_at I.hok e
  cases s with
  | mk hp g d t os =>
  refine wpAny_call (PySem.HandSPX.init_base b.facts (fun _ => rfl) (I.kIn _ _ hC) ho hl fun h' t2 keep hx => ?_)
  have J := I.write (t' := t) (x := a) (e := a) (o := exo a C none) (by rw [e]; exact True.intro) (.inl rfl) keep ⟨_, hx⟩ (exo_ok hx)
  have same : upd H a (exo a C none) = H := funext fun c => by
    by_cases hc : c = a
    · subst hc; rw [upd_same, e]
    · exact upd_ne hc
  rw [same] at J
  exact fin _ J
end
/-- B.__init__(self, ..) -/
def tBI (K : PySem.W.Frag) (nw : String) (bm : List Value) (ta : TA) : TE := fun σ H Q => ta σ H fun vs H1 => ∃ (a C : Addr) (ws : List V), vs = .ref a :: ws ∧ ws.length ≤ 1000 ∧ OexB K C nw bm ∧ H1 a = some (exo a C none) ∧ Q .non H1
def tBs (K : PySem.W.Frag) (nw : String) (bm : List Value) (f : Str) (to te : TE) : TS := fun D σ H => te σ H fun y H1 => to σ H1 fun x H2 => ∃ a C : Addr, x = .ref a ∧ OexB K C nw bm ∧ PySem.W.findIn K (.ref C) f = some none ∧
  H2 a = some (exo a C none) ∧ ∀ dx, H2 dx = none → dx ≠ a → D.nx σ (upd (upd H2 dx (exd dx [(f, y)])) a (exo a C (some dx)))
section
variable {X : Cx} {o e : Expr} {es : List Expr} {to te : TE} {ta : TA} {f : Str} {p p' p1 p2 pos : Pos} {B nw ini : String} {bm : List Value}
theorem pe_binit {pl : Sem Bool} {x : Str} (b : BaseB B nw ini bm) (hbl : bootBuiltins x = some (.type B)) (hg : Gl X x) (hm : X.mg x = none) (vV : PySem.W.findCls X.K (.type B) (.type "type") "__init__" = some (.val (.builtin ini))) (ha : PA X (e :: es) ta)
    (stub : Manifest.isStub B = false := by decide +kernel) (hand : PySem.W.handedIn (.builtin ini) = true := by decide +kernel) (hn : x ≠ "__name__" := by decide) (hdb : (x == ("__debug__" : Str)) = false := by decide)
    (hc : eval (.Call (.Attribute (.Name x p1) "__init__" p2) (e :: es) [] pos) X.env = (do
      let ov ← eval (.Name x p1) X.env
      standAt p2.atName
      let (f, first) ← holding [ov] (getMethod ov "__init__" pl)
      callWith pos f first (backTo pos (starEach (e :: es) X.env)) (backToKw pos (keywordEach [] X.env))) := by rfl)
    (he : starEach (e :: es) X.env = (false, eval e X.env) :: starEach es X.env := by rfl) (hpl : (backTo pos (starEach es X.env)).any (·.1) = false := by rfl) :
    PE X (.Call (.Attribute (.Name x p1) "__init__" p2) (e :: es) [] pos) (tBI X.K nw bm ta) := by
  constructor
  intro pins s σ H Q I h
  refine PySem.W.methodCall_KW (ld_blt I hg hm hbl ?_ hn hdb) hc
  obtain ⟨m, fr⟩ := I.fr
  refine PySem.W.method_type fr I.ok.mod.kin b.typ stub vV hand ?_
  show wpAny _ _ (callWith pos (Value.builtin ini) [] (backTo pos (starEach (e :: es) X.env)) []) _ _ _
  refine PyProof.Rows.callWith_method1 (thn (ha.run pos pins _ σ H _ (I.tok _) h) fun us s1 z => ?_) he hpl
  obtain ⟨vs, H1, I1, r1, a, C, ws, rfl, hl, T, ea, q⟩ := z
  cases r1 with
  | @cons _ u0 _ ur ra rw' =>
    obtain rfl : u0 = Value.ref a := ra
    exact base_init b T I1 ea (by rw [← Paired.length rw', sizeLine_eq]; omega) fun s' J => ⟨.non, H1, J, rfl, q⟩
theorem ps_bs (b : BaseB B nw ini bm) (ho : PE X o to) (he : PE X e te) (hs : swapsWith e (some (.Attribute o f p')) pos.line X.env = pure false := by rfl) : PS X (.Assign [.Attribute o f p'] e pos) (tBs X.K nw bm f to te) := by
  constructor
  intro pins s σ H D I h
  refine plainObj_wpAny_Assign_Attribute (thn (he.run pins s σ H _ I h) fun v s1 z1 => ?_) hs
  obtain ⟨y, H1, I1, r1, q1⟩ := z1
  refine thn (ho.run pins s1 σ H1 _ I1 q1) fun u s2 z2 => ?_
  obtain ⟨x, H2, I2, r2, a, C, rfl, T, no, ea, q⟩ := z2
  obtain rfl : u = Value.ref a := r2
  exact own_first b T I2 ea no r1 fun dx s' n ne J => ⟨σ, _, J, q dx n ne⟩
theorem pmk_b {CX : CXT} {x : Str} {C fI : Addr} {k : Nat} {fd : FuncData} {ps : List Str} {sp : Sp} (b : BaseB B nw ini bm) (T : OexB X.K C nw bm) (iC : PySem.W.findIn X.K (.ref C) "__init__" = some (some (.ref fI))) (tI : PySem.W.typeIn X.K (.ref fI) = some (.type "function"))
    (F1 : FnOk X.prog X.w X.K X.mg X.base CX k fI fd ps sp) (hr : Room (k + 1) X.A) (hb : Binds X.K fd ps []) (hx : Passes CX X (fun _ _ _ => False)) (hg : Gl X x) (hm : X.mg x = some (.ref C)) (ha : PA X (e :: es) ta)
    (hdb : (x == ("__debug__" : Str)) = false) (he : starEach (e :: es) X.env = (false, eval e X.env) :: starEach es X.env) (hpl : (backTo pos (starEach es X.env)).any (·.1) = false) :
    PMk X (.Call (.Name x p) (e :: es) [] pos) (tMkO C sp [] ta) := by
  intro pins s σ H Q I h
  obtain ⟨nm, q, N, bs, sn, sub, ab, col, dd, k0, k1, k2, k3, k5, hC⟩ := T.cls
  refine wpAny_Call_Name_kw (ld_glob I hg hm ?_ hdb)
  refine PySem.W.callWith_K (h₀ := X.base) I.ok.mod.kin T.kC (thn (ha.run pos pins s σ H _ I h) fun us s1 z => ?_) he hpl
  obtain ⟨vs, H1, I1, r1, hz, q1⟩ := z
  refine ⟨I1.kIn, ?_⟩
  show wpAny _ _ (call (.ref C) us) _ _ _
  cases s1 with
  | mk hp g dr tk os =>
  have big : hp.objs.size ≤ hp.objs.size + 1 := Nat.le_succ _
  have need := q1 (hp.objs.size + 1) (I1.hok.fresh big)
  have kept : ∀ c o, hp.get? c = some o → ((hp.push (PySem.W.kdv_tup us)).push (PySem.HandSPX.excO C hp.objs.size)).get? c = some o := fun c o e => Heap.get?_push_of_some _ (Heap.get?_push_of_some _ e)
  have it : ((hp.push (PySem.W.kdv_tup us)).push (PySem.HandSPX.excO C hp.objs.size)).get? (hp.objs.size + 1) = some (PySem.HandSPX.excO C hp.objs.size) := by heap_get
  have I2 : Inv X pins σ (upd H1 (hp.objs.size + 1) (exo (hp.objs.size + 1) C none)) ⟨(hp.push (PySem.W.kdv_tup us)).push (PySem.HandSPX.excO C hp.objs.size), g, dr, tk, os⟩ :=
    I1.laid (t' := tk) (a := hp.objs.size + 1) (o := exo (hp.objs.size + 1) C none) (h' := (hp.push (PySem.W.kdv_tup us)).push (PySem.HandSPX.excO C hp.objs.size)) kept big (exo_ok it)
  have r2 : Vals (V.ref (hp.objs.size + 1) :: (vs ++ [])) (Value.ref (hp.objs.size + 1) :: (us ++ [])) := .cons rfl (r1.append .nil)
  have len : (Value.ref (hp.objs.size + 1) :: us ++ []).length = ps.length := by
    have z := r2.length
    rw [F1.len _ _ _ _ need] at z
    exact z.symm
  have bt := hb _ (Value.ref (hp.objs.size + 1) :: us) I2.kIn len
  rw [List.cons_append] at bt
  have few : us.length ≤ sizeLine := by rw [← Paired.length r1, sizeLine_eq]; omega
  refine wpAny_call (PySem.HandSPX.call_own b.facts (fun _ => rfl) (I1.kIn _ _ hC) (PySem.W.looks_findIn I1.kIn iC) (fun self => PySem.W.bind_fn I1.kIn self tI) few
    (codeAny_mono (F1.run _ X.stack _ _ ⟨Value.ref (hp.objs.size + 1) :: us, []⟩ (Value.ref (hp.objs.size + 1) :: (us ++ [])) _ _ (fun _ _ _ => False) (hr.make C us []) (I2.env0.make C us []) bt r2 need) fun r s' z => ?_))
  match r, z with
  | .error er, z => exact hx pins σ _ _ er s' I2 z
  | .ok (.ret u), z =>
    obtain ⟨v, H2, os2, bare2, un2, hok2, rv, rfl, d, fs, ea, ed, hd1, q2⟩ := z
    cases s' with
    | mk h2 g2 d2 t2 os' => exact ⟨rv, mk_end (raises_own T.exC T.tyC) I1 big kept un2 hok2 os2 bare2 ea ed hd1 q2⟩
  | .ok .next, z => exact False.elim z
  | .ok .brk, z => exact False.elim z
  | .ok .cont, z => exact False.elim z
end
/-- an own error class over B, with one field -/
structure XClsB (P : Program) (w : World) (K : PySem.W.Frag) (mg : Str → Option Value) (base : Heap) (x : Str) (C : Addr) (fs : List Str) (B nw ini : String) (bm : List Value) : Prop where
  bas : BaseB B nw ini bm
  oex : OexB K C nw bm
  gC : mg x = some (.ref C)
  ini : ∃ fI fd, PySem.W.findIn K (.ref C) "__init__" = some (some (.ref fI)) ∧ PySem.W.typeIn K (.ref fI) = some (.type "function") ∧ FnOk P w K mg base CX0 1 fI fd ("self" :: fs) (spInit C fs) ∧ Binds K fd ("self" :: fs) []
section
variable {X : Cx} {E : EK} {e : Expr} {es : List Expr} {tas : TA} {Fs : Env → Sto → Res (List D)} {pos p pos2 : Pos} {B nw ini : String} {bm : List Value}
theorem ds_raiseB {x : Str} {C : Addr} {fs : List Str} {W : WX} (xc : XClsB X.prog X.w X.K X.mg X.base x C fs B nw ini bm) (hr : Room 2 X.A) (tk : Takes X W) (hW : W = fun cls d σ H => E σ cls d H) (ha : DA X E (e :: es) tas Fs) (hc : X.calm = true := by rfl) (hg : Gl X x := by rfl)
    (hdb : (x == ("__debug__" : Str)) = false := by decide) (he : starEach (e :: es) X.env = (false, eval e X.env) :: starEach es X.env := by rfl) (hpl : (backTo pos (starEach es X.env)).any (·.1) = false := by rfl) :
    DS X E (.Raise (some (.Call (.Name x p) (e :: es) [] pos)) none pos2) (fun _ σ H => tMkO C (spInit C fs) [] tas σ H fun cls d H' => E σ cls d H') (fRaise C fs Fs) := by
  obtain ⟨fI, fd, iC, tI, F1, hb⟩ := xc.ini
  subst hW
  exact ⟨ps_raise hc tk (pmk_b xc.bas xc.oex iC tI F1 hr hb pass0 hg xc.gC ha.1 hdb he hpl), so_raise ha.2⟩
end
section
variable {P : Program} {w : World} {K : PySem.W.Frag} {mg : Str → Option Value} {base : Heap} {B nw ini : String} {bm : List Value}
theorem init_xB {C fI : Addr} {fd : FuncData} {qual f : Str} {st : Stmt} {ms : Str} (F : Fun K "__init__" qual st fI fd) (Sc : FnScope [Str.ofString "self", f] [Str.ofString "self", f] (defScope st)) (oex : OexB K C nw bm) (hno : PySem.W.findIn K (.ref C) f = some none)
    (hbody : ∀ cdv A outer s H E, PSs ((cxOf CX0 P w K mg base [Str.ofString "self", f] qual (defScope st) fI cdv A outer s H E).nox) (defBody st) (tSeq (tDrop (tBI K nw bm (tCons (tVar 0) (tCons (tC (.str ms)) tNil)))) (tBs K nw bm f (tVar 0) (tVar 1)))) : FnOk P w K mg base CX0 1 fI fd [Str.ofString "self", f] (spInit C [f]) := by
  refine F.ok Sc (fun vs H Q E h => ?_) (fun cdv A outer s H vs Q E hr h => ?_)
  · obtain ⟨a, ys, rfl, hl, _⟩ := h
    rw [List.length_cons, hl]
    rfl
  · obtain ⟨a, ys, rfl, hl, ha, q⟩ := h
    match ys, hl with
    | [y], _ =>
      refine ⟨_, hbody cdv A outer s H E, ?_⟩
      refine ⟨_, rfl, a, C, [.str ms], rfl, by show 1 ≤ 1000; decide, oex, ha, ?_⟩
      exact ⟨y, rfl, _, rfl, a, C, rfl, oex, hno, ha, fun dx hd hn => q dx hd hn⟩
end
theorem base_Overflow : BaseB "OverflowError" "OverflowError.__new__" "OverflowError.__init__" [.type "OverflowError", .type "ArithmeticError", .type "Exception", .type "BaseException", .type "object"] :=
  ⟨PySem.F.excBase_OverflowError, fun self => by kernel_rfl, by decide +kernel, by kernel_rfl⟩
theorem base_Lookup : BaseB "LookupError" "LookupError.__new__" "LookupError.__init__" [.type "LookupError", .type "Exception", .type "BaseException", .type "object"] :=
  ⟨PySem.F.excBase_LookupError, fun self => by kernel_rfl, by decide +kernel, by kernel_rfl⟩
end DL
set_option Elab.async false
set_option linter.all false
set_option maxRecDepth 100000
set_option maxHeartbeats 4000000
set_option autoImplicit false
namespace DL
open PySem PySem.Spec PyProof.Rows L2
/-! ### try with several clauses, with and without a name -/
/-- the clause without a name -/
def wOnly (K : PySem.W.Frag) (c : Value) (ts : Addr → Value → Option Addr → TS) (Wout : WX) (D : Ends) : WX := fun cls d σ H =>
  ∃ b, PySem.W.exmOne K cls c = some b ∧ (b = true → ∀ a, H a = none → ts a cls d D σ H) ∧ (b = false → Wout cls d σ H)
abbrev Suite (X : Cx) (l : List Stmt) (ts : Addr → Value → Option Addr → TS) : Prop := ∀ (a : Addr) (oe : Obj) (cls : Value) (d : Option Addr) (pn : List (Addr × Obj)), Zc cls d oe → (∃ vs, oe.data = .fields vs) → PSs (X.suite a ((a, oe) :: pn)) l (ts a cls d)
inductive HdA (X : Cx) (Wout : WX) : List ExceptHandler → (Ends → WX) → Prop
  | nil : HdA X Wout [] (fun _ => Wout)
  | named {x n : Str} {c : Value} {i : Nat} {ts : Addr → Value → Option Addr → TS} {b₀ : Stmt} {suite : List Stmt} {np pos' : Pos} {hds : List ExceptHandler} {W : Ends → WX} (hi : X.N[i]? = some n) (hln : X.env.kindOf n = some .local) (hc : Names X x c) (hsu : Suite X (b₀ :: suite) ts) (r : HdA X Wout hds W) :
      HdA X Wout (.ExceptHandler (some (.Name x np)) (some n) (b₀ :: suite) pos' :: hds) (fun D => wAs X.K c i ts (W D) D)
  | bare {x : Str} {c : Value} {ts : Addr → Value → Option Addr → TS} {b₀ : Stmt} {suite : List Stmt} {np pos' : Pos} {hds : List ExceptHandler} {W : Ends → WX} (hc : Names X x c) (hsu : Suite X (b₀ :: suite) ts) (r : HdA X Wout hds W) :
      HdA X Wout (.ExceptHandler (some (.Name x np)) none (b₀ :: suite) pos' :: hds) (fun D => wOnly X.K c ts (W D) D)
section
variable {X : Cx} {body : List Stmt} {h₀ : ExceptHandler} {hds : List ExceptHandler} {W0 : Ends → WX} {pos : Pos} {tb : WX → TS} {Wout : WX}
theorem ps_try_all (hs : X.stack = X.env :: X.outer) (hf : X.env.frame = some X.env.locals) (hN : X.N.Nodup) (tk : Takes X Wout)
    (hb : ∀ (W : WX) (pn : List (Addr × Obj)) (xe : Value → Shared → Prop), Takes (X.tr pn xe) W → PassesOwn (model X.prog X.w) X.A X.env xe → PSs (X.tr pn xe) body (tb W))
    (hh : HdA X Wout (h₀ :: hds) W0) : PS X (.Try body (h₀ :: hds) [] [] pos) (fun D σ H => tb (W0 D) D σ H) := by
  constructor
  intro pins s σ H D I h
  have ok := I.ok
  have stk : X.A.frames = some (X.env :: X.outer) := by rw [ok.frames, hs]
  let land : Value → Shared → Prop := fun e s₁ => wpAny (model X.prog X.w) X.A (noteFrame e X.env) (fun _ s₂ => wpAny (model X.prog X.w) X.A (setFlight e none) (fun _ s₃ => wpAny (model X.prog X.w) X.A (handleBy e X.env (h₀ :: hds)) (SP X pins D) X.xe s₃) X.xe s₂) X.xe s₁
  refine wpAny_Try_except (wpAny_mono ((hb (W0 D) (X.pn ++ pins) land (fun u s' xx => ?_) PassesOwn.looking).run [] s σ H D (I.toTry _) h) (fun f s1 hsp => ?_) (fun e s1 he => he))
  · obtain ⟨a, B, sI, pins', σ', H', cls, d, rfl, J', nb, up, sky, na, os, ag, w⟩ := xx
    have J : Inv X pins σ' H' sI := J'.ofTry ok
    show wpAny (model X.prog X.w) X.A (noteFrame (.ref a) X.env) _ _ _
    refine Sky.land Zc.steady stk hf (by rw [← hs]; exact sky) fun h3 fl3 up3 => ?_
    have J3 : Inv X pins σ' H' { s' with heap := h3 } := J.landed nb fl3.1 (up.trans up3) os ag
    obtain ⟨oe3, vs3, he3, hz3, hd3⟩ := fl3.there
    have nfr : a ∉ frs (X.env :: X.outer) := fun hm => by
      obtain ⟨_, o', e', hnf⟩ := fl3.2.2.1.mem hm
      have z := e'.symm.trans he3
      cases z
      exact hnf _ hd3
    have nL : a ≠ X.env.locals := fun z => nfr (List.mem_filterMap.mpr ⟨X.env, List.mem_cons_self, by rw [hf, z]⟩)
    have nF : a ∉ X.fs := fun hm => by
      obtain ⟨e, he, q⟩ := List.mem_filterMap.mp hm
      exact nfr (List.mem_filterMap.mpr ⟨e, List.mem_cons_of_mem _ he, q⟩)
    have S3 := J3.suite he3 hd3 na nL nF
    have LT : PySem.W.Looks (model X.prog X.w) h3 (typeOf (.ref a)) cls := fun A Q E s k q => wpAny_typeOf_ref (k _ _ he3) (by rw [hz3.1]; exact q)
    have test : ∀ {x : Str} {c : Value} {np : Pos} {Q : Value → Shared → Prop} {E : Value → Shared → Prop}, Names X x c → Q c { s' with heap := h3 } → wpAny (model X.prog X.w) (X.A.mark (some (.ref a))) (eval (.Name x np) X.env) Q E { s' with heap := h3 } := fun {x c np Q E} hc q => by
      obtain ⟨hg, hdbg, hm | ⟨hm, hv, hnn⟩⟩ := hc
      · exact ld_glob (X := X.suite a ((a, oe3) :: (X.pn ++ pins))) S3 hg hm q hdbg
      · exact ld_blt (X := X.suite a ((a, oe3) :: (X.pn ++ pins))) S3 hg hm hv q hnn hdbg
    have go : ∀ {l : List ExceptHandler} {W : Ends → WX}, HdA X Wout l W → W D cls d σ' H' → wpAny (model X.prog X.w) X.A (handleBy (.ref a) X.env l) (SP X pins D) X.xe { s' with heap := h3 } := by
      intro l W hk
      induction hk with
      | nil =>
        intro w
        refine wpAny_handleBy_nil ?_
        obtain ⟨k1, k2, k3, oe, vs, T, oT, ts', he, hz, hd, h1, hr⟩ := id fl3
        have thrown : wpAny (model X.prog X.w) X.A (setFlight (.ref a) X.env.frame) (fun _ s4 => wpAny (model X.prog X.w) X.A (throw (.ref a) : Sem PySem.Flow) (SP X pins D) X.xe s4) X.xe { s' with heap := h3 } := by
          rw [hf]
          exact HandSPX.setFlight_upZ fl3 fun h4 hh4 up4 => wpAny_throw (tk _ _ ⟨a, B, sI, pins, σ', H', cls, d, rfl, J, nb, (up.trans up3).trans up4, .inr (.inr (by rw [hs]; exact hh4)), na, os, ag, w⟩)
        unfold PySem.passOn
        refine wpAny_bind (wpAny_field he hd h1 ?_)
        rw [if_neg (show ¬ ((Value.ref T == Value.none) = true) from by simp)]
        first
          | exact wpAny_bind (wpAny_pure (wpAny_bind thrown))
          | exact wpAny_bind thrown
      | @named x n c i ts b₀ suite np pos' hds2 W2 hi hln hc hsu r ih =>
        rintro ⟨b, hb1, yes, no⟩
        refine wpAny_handleBy_cons (codeAny_handlers_test (test hc ((PySem.W.exm_one (M := model X.prog X.w) (J3.kIn) LT hb1).here ?_))) (by intro q; cases q)
        cases b with
        | true =>
          refine codeAny_handlers_suite_as (HandSPX.lands_againZ fl3 fun h4 fl4 up4 => ?_)
          obtain ⟨oe4, vs4, he4, hz4, hd4⟩ := fl4.there
          have S4 := (J.landed nb fl4.1 ((up.trans up3).trans up4) os ag : Inv X pins σ' H' { s' with heap := h4 }).suite he4 hd4 na nL nF
          refine store_ok (X := X.suite a ((a, oe4) :: (X.pn ++ pins))) (v := .ref a) S4 hN hi (.inl hln) rfl (fun s5 S5 => ?_) (.inr hln)
          refine wpAny_mono ((hsu a oe4 cls d (X.pn ++ pins) hz4 ⟨_, hd4⟩).run [] s5 _ H' _ S5 (yes rfl a na)) (fun f s6 hsp => ?_) (fun _ _ z => False.elim z)
          have rest : ∀ {σ6 : L2.St} {H6 : Hp} {Q : Shared → Prop}, Inv (X.suite a ((a, oe4) :: (X.pn ++ pins))) [] σ6 H6 s6 → (∀ s7, Inv X pins (σ6.set i none) H6 s7 → Q s7) →
              wpAny (model X.prog X.w) X.A (do bindName X.env n .none; unbindBehindTheSuite X.env n pos') (fun _ s7 => Q s7) X.xe s6 := fun {σ6 H6 Q} S6 hq => gone_ok (S6.unsuite ok) hN hi hln hq
          match f, hsp with
          | .next, ⟨σ6, H6, S6, q6⟩ => exact rest S6 fun s7 J7 => ⟨_, _, J7, q6⟩
          | .brk, ⟨σ6, H6, S6, q6⟩ => exact rest S6 fun s7 J7 => ⟨_, _, J7, q6⟩
          | .cont, ⟨σ6, H6, S6, q6⟩ => exact rest S6 fun s7 J7 => ⟨_, _, J7, q6⟩
          | .ret u, ⟨v6, σ6, H6, S6, r6, q6⟩ => exact rest S6 fun s7 J7 => ⟨_, _, _, J7, r6, q6⟩
        | false => exact ih (no rfl)
      | @bare x c ts b₀ suite np pos' hds2 W2 hc hsu r ih =>
        rintro ⟨b, hb1, yes, no⟩
        refine wpAny_handleBy_cons (codeAny_handlers_test (test hc ((PySem.W.exm_one (M := model X.prog X.w) (J3.kIn) LT hb1).here ?_))) (by intro q; cases q)
        cases b with
        | true =>
          refine codeAny_handlers_suite (HandSPX.lands_againZ fl3 fun h4 fl4 up4 => ?_)
          obtain ⟨oe4, vs4, he4, hz4, hd4⟩ := fl4.there
          have S4 := (J.landed nb fl4.1 ((up.trans up3).trans up4) os ag : Inv X pins σ' H' { s' with heap := h4 }).suite he4 hd4 na nL nF
          refine wpAny_mono ((hsu a oe4 cls d (X.pn ++ pins) hz4 ⟨_, hd4⟩).run [] _ _ H' _ S4 (yes rfl a na)) (fun f s6 hsp => ?_) (fun _ _ z => False.elim z)
          match f, hsp with
          | .next, ⟨σ6, H6, S6, q6⟩ => exact ⟨_, _, S6.unsuite ok, q6⟩
          | .brk, ⟨σ6, H6, S6, q6⟩ => exact ⟨_, _, S6.unsuite ok, q6⟩
          | .cont, ⟨σ6, H6, S6, q6⟩ => exact ⟨_, _, S6.unsuite ok, q6⟩
          | .ret u, ⟨v6, σ6, H6, S6, r6, q6⟩ => exact ⟨_, _, _, S6.unsuite ok, r6, q6⟩
        | false => exact ih (no rfl)
    exact go hh w
  · match f, hsp with
    | .next, ⟨σ', H', J', q⟩ => exact wpAny_execs_nil ⟨σ', H', J'.ofTry ok, q⟩
    | .brk, ⟨σ', H', J', q⟩ => exact ⟨σ', H', J'.ofTry ok, q⟩
    | .cont, ⟨σ', H', J', q⟩ => exact ⟨σ', H', J'.ofTry ok, q⟩
    | .ret u, ⟨v, σ', H', J', r, q⟩ => exact ⟨v, σ', H', J'.ofTry ok, r, q⟩
end
/-- what comes of an error C fs that left the body -/
abbrev Hnd := Addr → List (Str × D) → Env → Sto → Flow
def SoH (E : EK) (W : Ends → WX) (Ψ : Hnd) : Prop := ∀ η B S1 H C fs ρ1 (T : Ends → Prop), (∀ D, (∀ dd ws σ' H' η' B', Nx η B η' B' S1 H H' → H dd = none → cold B' H' dd = some (.xd ws) → RpF η' (cold B' H') fs ws → Sl η' (cold B' H') σ' ρ1 → W D (.ref C) (some dd) σ' H') → T D) → Sv η B E T H (Ψ C fs ρ1 S1)
@[simp] def outH : Hnd := fun C fs ρ S => .ex C fs ρ S
open Classical in
noncomputable def asH (sub : Addr → Option Bool) (i : Nat) (Φs : Addr → Value → Option Addr → Env → Sto → Flow) (Ψ : Hnd) : Hnd := fun C fs ρ1 S1 => match sub C with
  | some true => if h : ∃ R, ∀ a dd, wipeF i (Φs a (.ref C) (some dd) (ρ1.set i (some (.exn a dd fs))) S1) = R then h.choose else .bad
  | some false => Ψ C fs ρ1 S1
  | none => .bad
@[simp] def onlyF : Flow → Flow
  | .ex _ _ _ _ => .bad
  | x => x
open Classical in
noncomputable def onlyH (sub : Addr → Option Bool) (Φs : Addr → Value → Option Addr → Env → Sto → Flow) (Ψ : Hnd) : Hnd := fun C fs ρ1 S1 => match sub C with
  | some true => if h : ∃ R, ∀ a dd, onlyF (Φs a (.ref C) (some dd) ρ1 S1) = R then h.choose else .bad
  | some false => Ψ C fs ρ1 S1
  | none => .bad
theorem asH_no {sub : Addr → Option Bool} {i : Nat} {Φs : Addr → Value → Option Addr → Env → Sto → Flow} {Ψ : Hnd} {C : Addr} {fs : List (Str × D)} {ρ1 : Env} {S1 : Sto} (h : sub C = some false) : asH sub i Φs Ψ C fs ρ1 S1 = Ψ C fs ρ1 S1 := by unfold asH; rw [h]
theorem asH_yes {sub : Addr → Option Bool} {i : Nat} {Φs : Addr → Value → Option Addr → Env → Sto → Flow} {Ψ : Hnd} {C : Addr} {fs : List (Str × D)} {ρ1 : Env} {S1 : Sto} (R : Flow) (h : sub C = some true) (hR : ∀ a dd, wipeF i (Φs a (.ref C) (some dd) (ρ1.set i (some (.exn a dd fs))) S1) = R) : asH sub i Φs Ψ C fs ρ1 S1 = R := by
  have hh : ∃ R, ∀ a dd, wipeF i (Φs a (.ref C) (some dd) (ρ1.set i (some (.exn a dd fs))) S1) = R := ⟨R, hR⟩
  unfold asH
  rw [h]
  dsimp only
  rw [dif_pos hh]
  exact (hh.choose_spec 0 0).symm.trans (hR 0 0)
theorem onlyH_no {sub : Addr → Option Bool} {Φs : Addr → Value → Option Addr → Env → Sto → Flow} {Ψ : Hnd} {C : Addr} {fs : List (Str × D)} {ρ1 : Env} {S1 : Sto} (h : sub C = some false) : onlyH sub Φs Ψ C fs ρ1 S1 = Ψ C fs ρ1 S1 := by unfold onlyH; rw [h]
theorem onlyH_yes {sub : Addr → Option Bool} {Φs : Addr → Value → Option Addr → Env → Sto → Flow} {Ψ : Hnd} {C : Addr} {fs : List (Str × D)} {ρ1 : Env} {S1 : Sto} (R : Flow) (h : sub C = some true) (hR : ∀ a dd, onlyF (Φs a (.ref C) (some dd) ρ1 S1) = R) : onlyH sub Φs Ψ C fs ρ1 S1 = R := by
  have hh : ∃ R, ∀ a dd, onlyF (Φs a (.ref C) (some dd) ρ1 S1) = R := ⟨R, hR⟩
  unfold onlyH
  rw [h]
  dsimp only
  rw [dif_pos hh]
  exact (hh.choose_spec 0 0).symm.trans (hR 0 0)
@[simp] def tryH (Φb : Env → Sto → Flow) (Ψ : Hnd) : Env → Sto → Flow := fun ρ S => match Φb ρ S with
  | .ex C fs ρ1 S1 => Ψ C fs ρ1 S1
  | x => x
theorem sv_only {η B : List Addr} {E : EK} {T : Ends → Prop} {H H' : Hp} {η' B' : List Addr} {S1 : Sto} {fl : Flow} (n : Nx η B η' B' S1 H H') (q : Sv η' B' EN T H' fl) : Sv η B E T H (onlyF fl) := by
  cases fl with
  | bad => trivial
  | ex C fs ρ S => trivial
  | nx ρ S => exact fun D k => q _ fun σ2 η2 B2 H2 n2 s2 => k _ _ _ _ (n.trans n2) s2
  | bk ρ S => exact fun D k => q _ fun σ2 η2 B2 H2 n2 s2 => k _ _ _ _ (n.trans n2) s2
  | ct ρ S => exact fun D k => q _ fun σ2 η2 B2 H2 n2 s2 => k _ _ _ _ (n.trans n2) s2
  | rt d S => exact fun D k => q _ fun v η2 B2 H2 n2 r2 => k _ _ _ _ (n.trans n2) r2
theorem soh_out {E : EK} : SoH E (fun _ cls d σ H => E σ cls d H) outH := fun η B S1 H C fs ρ1 T hz => fun D k => hz D fun dd ws σ' H' η' B' n h1 h2 h3 h4 => k σ' dd ws η' B' H' n h1 h2 h3 h4
section
variable {E : EK} {K : PySem.W.Frag} {c : Value} {i : Nat} {ts : Addr → Value → Option Addr → TS} {sub : Addr → Option Bool} {Φs : Addr → Value → Option Addr → Env → Sto → Flow} {W : Ends → WX} {Ψ : Hnd}
theorem soh_as (hsub : ∀ C b, sub C = some b → PySem.W.exmOne K (.ref C) c = some b) (hs : ∀ a cls d, SoS EN (ts a cls d) (Φs a cls d)) (hr : SoH E W Ψ) : SoH E (fun D => wAs K c i ts (W D) D) (asH sub i Φs Ψ) := fun η B S1 H C fs ρ1 T hz => by
  cases hc : sub C with
  | none => unfold asH; rw [hc]; trivial
  | some b =>
    have hx := hsub C b hc
    cases b with
    | false =>
      rw [asH_no hc]
      exact hr η B S1 H C fs ρ1 T fun D k => hz D fun dd ws σ' H' η' B' n h1 h2 h3 h4 => ⟨false, hx, nofun, fun _ => k dd ws σ' H' η' B' n h1 h2 h3 h4⟩
    | true =>
      unfold asH
      rw [hc]
      dsimp only
      split
      · rename_i hh
        have hR := hh.choose_spec
        refine sv_all (ι := Addr × Addr × List (Str × V) × L2.St × Hp × List Addr × List Addr) (P := fun g => Nx η B g.2.2.2.2.2.1 g.2.2.2.2.2.2 S1 H g.2.2.2.2.1 ∧ H g.2.1 = none ∧ cold g.2.2.2.2.2.2 g.2.2.2.2.1 g.2.1 = some (.xd g.2.2.1) ∧ RpF g.2.2.2.2.2.1 (cold g.2.2.2.2.2.2 g.2.2.2.2.1) fs g.2.2.1 ∧ Sl g.2.2.2.2.2.1 (cold g.2.2.2.2.2.2 g.2.2.2.2.1) g.2.2.2.1 ρ1)
          (T' := fun g D => ts g.1 (.ref C) (some g.2.1) { nx := fun σ' H' => D.nx (σ'.set i none) H', rt := D.rt, bk := fun σ' H' => D.bk (σ'.set i none) H', ct := fun σ' H' => D.ct (σ'.set i none) H' } (g.2.2.2.1.set i (some (.ref g.1))) g.2.2.2.2.1) (fun D k => ?_) fun g hg => ?_
        · exact hz D fun dd ws σ' H' η' B' n h1 h2 h3 h4 => ⟨true, hx, fun _ a ha => k (a, dd, ws, σ', H', η', B') ⟨n, h1, h2, h3, h4⟩, nofun⟩
        · obtain ⟨a, dd, ws, σ', H', η', B'⟩ := g
          obtain ⟨n, h1, h2, h3, h4⟩ := hg
          have q := hs a (.ref C) (some dd) η' B' S1 (σ'.set i (some (.ref a))) (ρ1.set i (some (.exn a dd fs))) H' n.wd (h4.set ⟨ws, rfl, h2, h3⟩)
          rw [← hR a dd]
          exact sv_wipe n q
      · trivial
theorem soh_only (hsub : ∀ C b, sub C = some b → PySem.W.exmOne K (.ref C) c = some b) (hs : ∀ a cls d, SoS EN (ts a cls d) (Φs a cls d)) (hr : SoH E W Ψ) : SoH E (fun D => wOnly K c ts (W D) D) (onlyH sub Φs Ψ) := fun η B S1 H C fs ρ1 T hz => by
  cases hc : sub C with
  | none => unfold onlyH; rw [hc]; trivial
  | some b =>
    have hx := hsub C b hc
    cases b with
    | false =>
      rw [onlyH_no hc]
      exact hr η B S1 H C fs ρ1 T fun D k => hz D fun dd ws σ' H' η' B' n h1 h2 h3 h4 => ⟨false, hx, nofun, fun _ => k dd ws σ' H' η' B' n h1 h2 h3 h4⟩
    | true =>
      unfold onlyH
      rw [hc]
      dsimp only
      split
      · rename_i hh
        have hR := hh.choose_spec
        refine sv_all (ι := Addr × Addr × List (Str × V) × L2.St × Hp × List Addr × List Addr) (P := fun g => Nx η B g.2.2.2.2.2.1 g.2.2.2.2.2.2 S1 H g.2.2.2.2.1 ∧ H g.2.1 = none ∧ cold g.2.2.2.2.2.2 g.2.2.2.2.1 g.2.1 = some (.xd g.2.2.1) ∧ RpF g.2.2.2.2.2.1 (cold g.2.2.2.2.2.2 g.2.2.2.2.1) fs g.2.2.1 ∧ Sl g.2.2.2.2.2.1 (cold g.2.2.2.2.2.2 g.2.2.2.2.1) g.2.2.2.1 ρ1)
          (T' := fun g D => ts g.1 (.ref C) (some g.2.1) D g.2.2.2.1 g.2.2.2.2.1) (fun D k => ?_) fun g hg => ?_
        · exact hz D fun dd ws σ' H' η' B' n h1 h2 h3 h4 => ⟨true, hx, fun _ a ha => k (a, dd, ws, σ', H', η', B') ⟨n, h1, h2, h3, h4⟩, nofun⟩
        · obtain ⟨a, dd, ws, σ', H', η', B'⟩ := g
          obtain ⟨n, h1, h2, h3, h4⟩ := hg
          rw [← hR a dd]
          exact sv_only n (hs a (.ref C) (some dd) η' B' S1 σ' ρ1 H' n.wd h4)
      · trivial
theorem so_tryH {tb : WX → TS} {Φb : Env → Sto → Flow} (hb : ∀ W : WX, SoS (fun σ c d H => W c d σ H) (tb W) Φb) (hr : SoH E W Ψ) : SoS E (fun D σ H => tb (W D) D σ H) (tryH Φb Ψ) := fun η B S σ ρ H w s => by
  have z := fun D : Ends => hb (W D) η B S σ ρ H w s
  unfold tryH
  cases e : Φb ρ S with
  | bad => trivial
  | nx ρ1 S1 => exact fun D k => by have y := z D; rw [e] at y; exact y D k
  | bk ρ1 S1 => exact fun D k => by have y := z D; rw [e] at y; exact y D k
  | ct ρ1 S1 => exact fun D k => by have y := z D; rw [e] at y; exact y D k
  | rt d S1 => exact fun D k => by have y := z D; rw [e] at y; exact y D k
  | ex C fs ρ1 S1 =>
    refine hr η B S1 H C fs ρ1 _ fun D k => ?_
    have y := z D
    rw [e] at y
    exact y D fun σ' dd ws η' B' H' n h1 h2 h3 h4 => k dd ws σ' H' η' B' n h1 h2 h3 h4
end
def DH (X : Cx) (E : EK) (l : List ExceptHandler) (W : Ends → WX) (Ψ : Hnd) : Prop := HdA X (fun cls d σ H => E σ cls d H) l W ∧ SoH E W Ψ
section
variable {X : Cx} {E : EK} {x n : Str} {c : Value} {body suite : List Stmt} {b₀ : Stmt} {np pos pos' : Pos} {ts : Addr → Value → Option Addr → TS} {Φs : Addr → Value → Option Addr → Env → Sto → Flow} {hds : List ExceptHandler} {W : Ends → WX} {Ψ : Hnd}
theorem dh_nil : DH X E [] (fun _ cls d σ H => E σ cls d H) outH := ⟨.nil, soh_out⟩
theorem dh_as {i : Nat} (sub : Addr → Option Bool) (hc : Names X x c) (hsub : ∀ C b, sub C = some b → PySem.W.exmOne X.K (.ref C) c = some b)
    (hsu : ∀ (a : Addr) (oe : Obj) (cls : Value) (d : Option Addr) (pn : List (Addr × Obj)), Zc cls d oe → (∃ vs, oe.data = .fields vs) → DSs (X.suite a ((a, oe) :: pn)) EN (b₀ :: suite) (ts a cls d) (Φs a cls d))
    (hr : DH X E hds W Ψ) (hi : X.N[i]? = some n := by rfl) (hln : X.env.kindOf n = some .local := by rfl) : DH X E (.ExceptHandler (some (.Name x np)) (some n) (b₀ :: suite) pos' :: hds) (fun D => wAs X.K c i ts (W D) D) (asH sub i Φs Ψ) :=
  ⟨.named hi hln hc (fun a oe cls d pn hz hf => (hsu a oe cls d pn hz hf).1) hr.1, soh_as hsub (fun a cls d => (hsu a ⟨cls, d, .fields #[], #[]⟩ cls d [] ⟨rfl, rfl⟩ ⟨_, rfl⟩).2) hr.2⟩
theorem dh_only (sub : Addr → Option Bool) (hc : Names X x c) (hsub : ∀ C b, sub C = some b → PySem.W.exmOne X.K (.ref C) c = some b)
    (hsu : ∀ (a : Addr) (oe : Obj) (cls : Value) (d : Option Addr) (pn : List (Addr × Obj)), Zc cls d oe → (∃ vs, oe.data = .fields vs) → DSs (X.suite a ((a, oe) :: pn)) EN (b₀ :: suite) (ts a cls d) (Φs a cls d))
    (hr : DH X E hds W Ψ) : DH X E (.ExceptHandler (some (.Name x np)) none (b₀ :: suite) pos' :: hds) (fun D => wOnly X.K c ts (W D) D) (onlyH sub Φs Ψ) :=
  ⟨.bare hc (fun a oe cls d pn hz hf => (hsu a oe cls d pn hz hf).1) hr.1, soh_only hsub (fun a cls d => (hsu a ⟨cls, d, .fields #[], #[]⟩ cls d [] ⟨rfl, rfl⟩ ⟨_, rfl⟩).2) hr.2⟩
theorem ds_try {h₀ : ExceptHandler} {tb : WX → TS} {Φb : Env → Sto → Flow} {W' : WX} (hN : X.N.Nodup) (tk : Takes X W') (hW : W' = fun cls d σ H => E σ cls d H)
    (hb : ∀ (W : WX) (pn : List (Addr × Obj)) (xe : Value → Shared → Prop), Takes (X.tr pn xe) W → PassesOwn (model X.prog X.w) X.A X.env xe → DSs (X.tr pn xe) (fun σ c d H => W c d σ H) body (tb W) Φb)
    (hr : DH X E (h₀ :: hds) W Ψ) (hs : X.stack = X.env :: X.outer := by rfl) (hf : X.env.frame = some X.env.locals := by rfl) : DS X E (.Try body (h₀ :: hds) [] [] pos) (fun D σ H => tb (W D) D σ H) (tryH Φb Ψ) := by
  subst hW
  refine ⟨ps_try_all hs hf hN tk (fun W pn xe tk po => (hb W pn xe tk po).1) hr.1, so_tryH (fun W => ?_) hr.2⟩
  obtain ⟨xe, tk', po⟩ := takes_any (X := X) hs hf (W := W)
  exact (hb W [] xe tk' po).2
end
end DL
set_option Elab.async false
set_option linter.all false
set_option maxRecDepth 100000
set_option maxHeartbeats 4000000
set_option autoImplicit false
namespace DL
open PySem PySem.Spec PyProof.Rows L2 ClX
theorem getD'_at {ρ : Env} {i : Nat} {d : D} (q : getD' ρ i = some d) : ρ[i]? = some (some d) := by
  unfold getD' at q
  cases z : ρ[i]? with
  | none => rw [z] at q; cases q
  | some y => rw [z] at q; exact congrArg some q
/-! ### built-in functions that call defs of the text -/
def VG (E0 : XK) (r : List V → Hp → VK → Prop) (f : Sto → List D → Res D) : Prop := ∀ (η B : List Addr) (S : Sto) (H : Hp) (ds : List D) (vs : List V), Wd η B S H → RpL η (cold B H) ds vs → EvD η B E0 (r vs H) H (f S ds)
@[simp] def appR (f : Sto → List D → Res D) (F : Env → Sto → Res (List D)) : Env → Sto → Res D := fun ρ S => (F ρ S).bind fun ds S1 => f S1 ds
def CallAt (X : Cx) (σ : L2.St) (f : Value) (r : List V → Hp → VK → Prop) : Prop := ∀ (pins : List (Addr × Obj)) (s : Shared) (H : Hp) (xs : List V) (us : List Value) (Q : VK), Inv X pins σ H s → Vals xs us → r xs H Q → wpAny (model X.prog X.w) X.A (call f us) (EP X pins σ Q) X.xe s
section
variable {X : Cx} {E : EK} {e o : Expr} {es : List Expr} {to : TE} {tas : TA} {Fo : Env → Sto → Res D} {Fs : Env → Sto → Res (List D)} {pos p apos : Pos} {C : Addr}
theorem de_callBG {x : Str} {id : String} {r : XK → List V → Hp → VK → Prop} {f : Sto → List D → Res D} (hr : ∀ E0, VG E0 (r E0) f) (hc : ∀ σ, CallAt X σ (.builtin id) (r (E σ))) (hm : X.mg x = none) (hv : bootBuiltins x = some (.builtin id)) (ha : DA X E (e :: es) tas Fs)
    (hg : Gl X x := by rfl) (hn : x ≠ "__name__" := by decide) (hdb : (x == ("__debug__" : Str)) = false := by decide) (he : starEach (e :: es) X.env = (false, eval e X.env) :: starEach es X.env := by rfl) (hpl : (backTo pos (starEach es X.env)).any (·.1) = false := by rfl) :
    DE X E (.Call (.Name x p) (e :: es) [] pos) (fun σ => tCB (r (E σ)) tas σ) (appR f Fs) := by
  obtain ⟨pa, q⟩ := ha
  refine ⟨⟨fun pins s σ H Q I h => ?_⟩, fun η B S σ ρ H w s => Ev.bind (T := tas σ H) (T' := fun vs H1 Q => r (E σ) vs H1 Q) (q η B S σ ρ H w s) fun ds S1 xs η1 B1 H1 n1 r1 => hr (E σ) η1 B1 S1 H1 ds xs n1.wd r1⟩
  refine wpAny_Call_Name_kw (ld_blt I hg hm hv (PyProof.Rows.callWith_builtin1 (thn (pa.run pos pins s σ H _ I h) fun us s1 z => ?_) he hpl) hn hdb)
  obtain ⟨vs, H1, I1, r1, q1⟩ := z
  exact hc σ pins s1 H1 vs us Q I1 r1 q1
theorem de_callTyG {x : Str} {T : String} {r : XK → List V → Hp → VK → Prop} {f : Sto → List D → Res D} (hr : ∀ E0, VG E0 (r E0) f) (hc : ∀ σ, CallAt X σ (.type T) (r (E σ))) (hm : X.mg x = none) (hv : bootBuiltins x = some (.type T)) (ha : DA X E (e :: es) tas Fs)
    (hg : Gl X x := by rfl) (hn : x ≠ "__name__" := by decide) (hdb : (x == ("__debug__" : Str)) = false := by decide) (he : starEach (e :: es) X.env = (false, eval e X.env) :: starEach es X.env := by rfl) (hpl : (backTo pos (starEach es X.env)).any (·.1) = false := by rfl) :
    DE X E (.Call (.Name x p) (e :: es) [] pos) (fun σ => tCB (r (E σ)) tas σ) (appR f Fs) := by
  obtain ⟨pa, q⟩ := ha
  refine ⟨⟨fun pins s σ H Q I h => ?_⟩, fun η B S σ ρ H w s => Ev.bind (T := tas σ H) (T' := fun vs H1 Q => r (E σ) vs H1 Q) (q η B S σ ρ H w s) fun ds S1 xs η1 B1 H1 n1 r1 => hr (E σ) η1 B1 S1 H1 ds xs n1.wd r1⟩
  refine wpAny_Call_Name_kw (ld_blt I hg hm hv (PyProof.Rows.callWith_type1 (thn (pa.run pos pins s σ H _ I h) fun us s1 z => ?_) he hpl) hn hdb)
  obtain ⟨vs, H1, I1, r1, q1⟩ := z
  exact hc σ pins s1 H1 vs us Q I1 r1 q1
end
section
variable {X : Cx} {CX : CXT} {k : Nat} {g C : Addr} {sp : Sp} {E0 : XK}
theorem run_atS {pins : List (Addr × Obj)} {σ : L2.St} {H : Hp} {s : Shared} {A : Around} {Q : VK} {us : List Value} {ws : List V} (F : FnR X.prog X.w X.K X.mg X.base CX k g sp) (hr : Room k A) (e0 : Env0 X.prog X.w X.K X.mg X.base A X.stack s H) (hx : PassesAt CX X σ E0) (I : Inv X pins σ H s) (r : Vals ws us) (h : sp ws H Q E0) :
    codeAny (model X.prog X.w) A (.call (.ref g) ⟨us, []⟩) (fun r s' => match r with | .ok (.ret v) => EP X pins σ Q v s' | .ok _ => False | .error e => X.xe e s') s := by
  refine codeAny_mono (F A X.stack s H us ws Q E0 hr e0 r h) fun res s' z => ?_
  match res, z with
  | .error e, z => exact hx pins H s e s' I z
  | .ok (.ret u), z => exact I.after z
  | .ok .next, z => exact z.elim
  | .ok .brk, z => exact z.elim
  | .ok .cont, z => exact z.elim
end
/-! ### len(o), str(o) by the class's own defs -/
section
variable {prog : Program} {w : World} {A : Around} {E : Value → Shared → Prop} {s : Shared} {K : PySem.W.Frag} {x C f : Addr} {ox : Obj} {odd : Option Obj}
theorem len_by {Q : Value → Shared → Prop} (X : K.In s.heap) (I : PySem.W.InstAt s.heap x ox C odd) (hs : PySem.W.findIn K (.ref C) "__len__" = some (some (.ref f))) (hf : PySem.W.isFn K (.ref f) = true)
    (h : wpAny (model prog w) A.in1 (call (.ref f) [.ref x]) (fun r s₁ => ∃ n u, r = Value.int n u ∧ 0 ≤ n ∧ n < 2 ^ 63 ∧ Q (.int n s₁.toks) { s₁ with toks := s₁.toks + 1 }) E s) : wpAny (model prog w) A (call (.builtin "len") [.ref x]) Q E s := by
  refine Calls.call_function_entry PySem.kind_len PySem.plain_len PySem.entry_len (PySem.args_len1 _) ?_
  unfold Builtin.«len»
  refine wpAny_bind (m := oneArg "len" _) (wpAny_pure (wpAny_bind (m := callSpecial? (.ref x) (Str.ofString "__len__")) (PySem.W.special_fn X I hs (beq_iff_eq.mp hf) (wpAny_mono h (fun r s' hr => ?_) fun _ _ y => y))))
  obtain ⟨n, u, rfl, h0, h1, hq⟩ := hr
  refine wpAny_bind (wpAny_holding (wpAny_pure (wpAny_bind (wpAny_letGo ?_))))
  show wpAny _ _ (if n < 0 then _ else _) _ _ _
  rw [if_neg (by omega)]
  show wpAny _ _ (if n ≥ 2 ^ 63 then _ else _) _ _ _
  rw [if_neg (by omega)]
  exact wpAny_bind (wpAny_mkInt (wpAny_pure ⟨_, rfl, hq⟩))
end
def rOwnLen (C : Addr) (sp : Sp) (E : XK) : List V → Hp → VK → Prop := fun xs H Q => ∃ a dx fs, xs = [V.ref a] ∧ H a = some (.ins C dx fs) ∧ sp [.ref a] H (fun z H' => ∃ i, z = .int i ∧ 0 ≤ i ∧ i < 2 ^ 63 ∧ Q z H') E
def rOwnStr (C : Addr) (sp : Sp) (E : XK) : List V → Hp → VK → Prop := fun xs H Q => ∃ a dx fs, xs = [V.ref a] ∧ H a = some (.ins C dx fs) ∧ sp [.ref a] H (fun z H' => ∃ i, z = .str i ∧ Q z H') E
section
variable {X : Cx} {CX : CXT} {C g : Addr} {n k : Nat} {sp : Sp} {E0 : XK} {m : List D → Sto → Res D}
theorem cr_ownLen {σ : L2.St} (hs : PySem.W.findIn X.K (.ref C) "__len__" = some (some (.ref g))) (hf : PySem.W.isFn X.K (.ref g) = true) (F : FnR X.prog X.w X.K X.mg X.base CX k g sp) (hr : Room (k + 1) X.A) (hx : PassesAt CX X σ E0) : CallAt X σ (.builtin "len") (rOwnLen C sp E0) := by
  intro pins s H xs us Q I r h
  obtain ⟨a, dx, fs, rfl, ha, q⟩ := h
  obtain ⟨u, rfl, ru⟩ := r.one
  cases (show u = Value.ref a from ru)
  obtain ⟨mA, O, _, _, _, _⟩ := ins_get I.hok ha
  obtain ⟨od, J, _⟩ := O.look
  refine len_by I.kIn J hs hf (wpAny_mono (wpAny_call (run_atS (us := [.ref a]) (ws := [.ref a]) F hr.in1 I.env0.in1 hx I (.cons rfl .nil) q)) (fun w s' z => ?_) fun _ _ x => x)
  obtain ⟨z', H', I', rz, i, rfl, h0, h1, qz⟩ := z
  obtain ⟨t, rfl⟩ := (show ∃ t, w = Value.int i t from rz)
  exact ⟨i, t, rfl, h0, h1, .int i, H', I'.tok _, ⟨_, rfl⟩, qz⟩
theorem cr_ownStr {σ : L2.St} (hs : PySem.W.findIn X.K (.ref C) "__str__" = some (some (.ref g))) (hf : PySem.W.isFn X.K (.ref g) = true) (F : FnR X.prog X.w X.K X.mg X.base CX k g sp) (hr : Room (k + 2) X.A) (hx : PassesAt CX X σ E0) : CallAt X σ (.type "str") (rOwnStr C sp E0) := by
  intro pins s H xs us Q I r h
  obtain ⟨a, dx, fs, rfl, ha, q⟩ := h
  obtain ⟨u, rfl, ru⟩ := r.one
  cases (show u = Value.ref a from ru)
  obtain ⟨mA, O, _, _, _, _⟩ := ins_get I.hok ha
  obtain ⟨od, J, _⟩ := O.look
  have h2 : Room k X.A.in1.in1 := (show Room (k + 1) X.A.in1 from Room.in1 hr).in1
  refine PySem.W.kso_call h2.units0 I.kIn J hs hf (wpAny_mono (wpAny_call (run_atS (us := [.ref a]) (ws := [.ref a]) F h2 I.env0.in1.in1 hx I (.cons rfl .nil) q)) (fun w s' z => ?_) fun _ _ x => x)
  obtain ⟨z', H', I', rz, i, rfl, qz⟩ := z
  obtain ⟨t, rfl⟩ := (show ∃ t, w = Value.str i t from rz)
  exact ⟨.str i, H', I', ⟨_, rfl⟩, qz⟩
theorem ev_imp {α β : Type} {R : List Addr → Hp → α → β → Prop} {η B : List Addr} {E : XK} {T T' : (β → Hp → Prop) → Prop} {H : Hp} {r : Res α} (h : ∀ Q, T Q → T' Q) (z : Ev R η B E T H r) : Ev R η B E T' H r := by
  cases r with
  | bad => trivial
  | ok a S => exact fun Q k => h Q (z Q k)
  | exc C fs S => exact fun Q k => h Q (z Q k)
open Classical in
noncomputable def okInt : D → Sto → Res D := fun d S => match d with | .int i => if 0 ≤ i ∧ i < 2 ^ 63 then .ok (.int i) S else .bad | _ => .bad
@[simp] def okStr : D → Sto → Res D := fun d S => match d with | .str i => .ok (.str i) S | _ => .bad
@[simp] def ownF (C : Addr) (m : List D → Sto → Res D) (k : D → Sto → Res D) : Sto → List D → Res D := fun S ds => match ds with
  | [x] => (match vO S x with | some (C', _) => if C' = C then (m [x] S).bind k else .bad | none => .bad)
  | _ => .bad
theorem vg_own {P : V → Prop} {kk : D → Sto → Res D} (hk : ∀ d S, kk d S = .bad ∨ (kk d S = .ok d S ∧ ∀ η Hc v, Rp η Hc d v → P v)) :
    VG E0 (fun xs H Q => ∃ a dx fs, xs = [V.ref a] ∧ H a = some (.ins C dx fs) ∧ spF 1 m [.ref a] H (fun z H' => P z ∧ Q z H') E0) (ownF C m kk) := by
  intro η B S H ds vs w r
  match ds, r with
  | [], _ => trivial
  | _ :: _ :: _, _ => trivial
  | [x], r =>
    obtain ⟨v, vs', rfl, rx, e0⟩ := r
    obtain rfl : vs' = [] := e0
    unfold ownF
    dsimp only
    split
    · rename_i C' fs hx
      split
      · rename_i hC
        subst hC
        obtain ⟨a, dx, ws, rfl, ha, ra⟩ := w.seeO rx hx
        have z := ev_spF (n := 1) (m := m) (E := E0) (ds := [x]) (vs := [.ref a]) rfl w ⟨_, _, rfl, rx, rfl⟩
        cases e : m [x] S with
        | bad => trivial
        | exc C'' fs' S' =>
          rw [e] at z
          exact fun Q k => ⟨a, dx, ws, rfl, ha, z _ k⟩
        | ok d S' =>
          rw [e] at z
          show EvD η B E0 _ H (kk d S')
          rcases hk d S' with hb | ⟨ho, hp⟩
          · rw [hb]; trivial
          · rw [ho]
            exact fun Q k => ⟨a, dx, ws, rfl, ha, z _ fun v' η' B' H' n' r' => ⟨hp _ _ _ r', k v' η' B' H' n' r'⟩⟩
      · trivial
    · trivial
theorem okInt_at {n : Nat} (h : n ≤ 1000) (S : Sto) : okInt (.int n) S = .ok (.int n) S := by
  unfold okInt
  refine if_pos ⟨by omega, ?_⟩
  have : (n : Int) ≤ 1000 := by omega
  exact Int.lt_of_le_of_lt this (by decide)
theorem own_len {S : Sto} {x : D} {F : List (Str × D)} {n : Nat} (hv : vO S x = some (C, F)) (hl : m [x] S = .ok (.int n) S) (h : n ≤ 1000) : ownF C m okInt S [x] = .ok (.int n) S := by
  have hs := okInt_at h S
  generalize D.int (n : Int) = d at hl hs
  unfold ownF
  dsimp only
  rw [hv]
  dsimp only
  rw [if_pos rfl, hl, Res.bind_ok]
  exact hs
theorem vg_len : VG E0 (rOwnLen C (spF 1 m) E0) (ownF C m okInt) := by
  have z := vg_own (C := C) (m := m) (E0 := E0) (P := fun z => ∃ i, z = V.int i ∧ 0 ≤ i ∧ i < 2 ^ 63) (kk := okInt) (fun d S => by
    cases d <;> first | exact .inl rfl | skip
    rename_i i
    by_cases h : 0 ≤ i ∧ i < 2 ^ 63
    · refine .inr ⟨?_, fun η Hc v r => ⟨i, r, h⟩⟩
      show (if 0 ≤ i ∧ i < 2 ^ 63 then _ else _) = _
      rw [if_pos h]
    · refine .inl ?_
      show (if 0 ≤ i ∧ i < 2 ^ 63 then _ else _) = _
      rw [if_neg h])
  intro η B S H ds vs w r
  have y := z η B S H ds vs w r
  exact ev_imp (fun Q h => by
    obtain ⟨a, dx, fs, h1, h2, h3⟩ := h
    have e : (fun z H' => (∃ i, z = V.int i ∧ 0 ≤ i ∧ i < 2 ^ 63) ∧ Q z H') = fun z H' => ∃ i, z = V.int i ∧ 0 ≤ i ∧ i < 2 ^ 63 ∧ Q z H' := by
      funext z H'
      exact propext ⟨fun ⟨⟨i, a, b, c⟩, d⟩ => ⟨i, a, b, c, d⟩, fun ⟨i, a, b, c, d⟩ => ⟨⟨i, a, b, c⟩, d⟩⟩
    rw [e] at h3
    exact ⟨a, dx, fs, h1, h2, h3⟩) y
theorem vg_str : VG E0 (rOwnStr C (spF 1 m) E0) (ownF C m okStr) := by
  have z := vg_own (C := C) (m := m) (E0 := E0) (P := fun z => ∃ i, z = V.str i) (kk := okStr) (fun d S => by
    cases d <;> first | exact .inl rfl | skip
    rename_i i
    exact .inr ⟨rfl, fun η Hc v r => ⟨i, r⟩⟩)
  intro η B S H ds vs w r
  have y := z η B S H ds vs w r
  exact ev_imp (fun Q h => by
    obtain ⟨a, dx, fs, h1, h2, h3⟩ := h
    have e : (fun z H' => (∃ i, z = V.str i) ∧ Q z H') = fun z H' => ∃ i, z = V.str i ∧ Q z H' := by
      funext z H'
      exact propext ⟨fun ⟨⟨i, a⟩, d⟩ => ⟨i, a, d⟩, fun ⟨i, a, d⟩ => ⟨⟨i, a⟩, d⟩⟩
    rw [e] at h3
    exact ⟨a, dx, fs, h1, h2, h3⟩) y
end
/-! ### C.f, a constant of the class; C.m(..), a classmethod; cls(..) -/
@[simp] def cvalF (C : Addr) (d : D) (Fo : Env → Sto → Res D) : Env → Sto → Res D := fun ρ S => (Fo ρ S).bind fun x S1 => match x with | .cls C' => if C' = C then .ok d S1 else .bad | _ => .bad
@[simp] def cmethF (C : Addr) (n : Nat) (m : List D → Sto → Res D) (Fo : Env → Sto → Res D) (F : Env → Sto → Res (List D)) : Env → Sto → Res D := fun ρ S => (Fo ρ S).bind fun x S1 => match x with
  | .cls C' => if C' = C then (F ρ S1).bind fun ds S2 => if ds.length + 1 = n then m (.cls C :: ds) S2 else .bad else .bad
  | _ => .bad
section
variable {X : Cx} {E : EK} {E0 : XK} {e o : Expr} {es : List Expr} {to : TE} {tas : TA} {Fo : Env → Sto → Res D} {Fs : Env → Sto → Res (List D)} {pos p apos : Pos} {C : Addr}
theorem de_cval {K : PySem.W.Frag} {mc u : Value} {v : V} {f : Str} {d : D} (r : CRead X.K C mc) (c : CVal X.K C mc f v u) (hd : ∀ η H, Rp η H d v) (ho : DE X E o to Fo) (hK : X.K = K := by rfl) (hb : attributeBase o f X.env (eval o X.env) = eval o X.env := by rfl) :
    DE X E (.Attribute o f pos) (tCVal K to f) (cvalF C d Fo) := by
  subst hK
  refine ⟨pe_cval ho.1 hb, fun η B S σ ρ H w s => Ev.bind (T := to σ H) (T' := fun x H1 Q => ∃ C mc v u, x = .ref C ∧ CRead X.K C mc ∧ CVal X.K C mc f v u ∧ Q v H1) (ho.2 η B S σ ρ H w s) fun x S1 y η1 B1 H1 n1 r1 => ?_⟩
  cases x <;> first | trivial | skip
  rename_i C'
  dsimp only
  split
  · rename_i h
    subst h
    exact fun Q k => ⟨_, mc, v, u, r1, r, c, k v η1 B1 H1 n1.wd.refl (hd _ _)⟩
  · trivial
theorem so_cmeth {n : Nat} {m : List D → Sto → Res D} (ho : SoE E to Fo) (ha : SoA E tas Fs) : SoE E (fun σ => tCMeth C (spF n m) (E σ) to tas σ) (cmethF C n m Fo Fs) := fun η B S σ ρ H w s => by
  refine Ev.bind (T := to σ H) (T' := fun x H1 Q => x = .ref C ∧ tas σ H1 fun vs H2 => spF n m (.ref C :: vs) H2 Q (E σ)) (ho η B S σ ρ H w s) fun x S1 y η1 B1 H1 n1 r1 => ?_
  cases x <;> first | trivial | skip
  rename_i C'
  dsimp only
  split
  · rename_i h
    subst h
    have z := Ev.bind (R := fun η Hc d v => RpL η Hc d v) (R' := fun η Hc d v => Rp η Hc d v) (T := tas σ H1) (T' := fun vs H2 Q => spF n m (.ref C' :: vs) H2 Q (E σ)) (k := fun ds S2 => if ds.length + 1 = n then m (.cls C' :: ds) S2 else .bad) (ha η1 B1 S1 σ ρ H1 n1.wd (n1.sl s)) fun ds S2 vs η2 B2 H2 n2 r2 => by
      split
      · rename_i hn
        exact ev_spF (m := m) (E := E σ) (ds := .cls C' :: ds) (vs := .ref C' :: vs) hn n2.wd ⟨_, _, rfl, rfl, r2⟩
      · trivial
    revert z
    generalize (Res.bind (Fs ρ S1) fun ds S2 => if ds.length + 1 = n then m (.cls C' :: ds) S2 else .bad) = rr
    intro z
    cases rr with
    | bad => trivial
    | ok d S' => exact fun Q k => ⟨r1, z Q k⟩
    | exc C fs S' => exact fun Q k => ⟨r1, z Q k⟩
  · trivial
theorem de_cmeth {CX : CXT} {k n : Nat} {m : List D → Sto → Res D} {nm : Str} {mc : Value} {pp g : Addr} {pl : Sem Bool} (r : CRead X.K C mc) (c : CMet X.K C mc nm pp g) (G : FnR X.prog X.w X.K X.mg X.base CX k g (spF n m)) (hr : Room k X.A) (hx : PassS CX X E)
    (ho : DE X E o to Fo) (ha : DA X E (e :: es) tas Fs) (hst : starEach (e :: es) X.env = (false, eval e X.env) :: starEach es X.env := by rfl) (hpl : (backTo pos (starEach es X.env)).any (·.1) = false := by rfl)
    (ht : eval (.Call (.Attribute o nm apos) (e :: es) [] pos) X.env = (do
      let ov ← eval o X.env
      standAt apos.atName
      let (f, first) ← holding [ov] (getMethod ov nm pl)
      callWith pos f first (backTo pos (starEach (e :: es) X.env)) (backToKw pos (keywordEach [] X.env))) := by rfl) :
    DE X E (.Call (.Attribute o nm apos) (e :: es) [] pos) (fun σ => tCMeth C (spF n m) (E σ) to tas σ) (cmethF C n m Fo Fs) := by
  refine ⟨⟨fun pins s σ H Q I h => ?_⟩, so_cmeth ho.2 ha.2⟩
  refine PySem.W.methodCall_KW (pl := pl) (thn (ho.1.run pins s σ H _ I h) fun u s1 z => ?_) ht
  obtain ⟨x, H1, I1, rx, rfl, q⟩ := z
  obtain rfl : u = Value.ref C := rx
  refine getmethcm_ok I1 r c fun s2 I2 => callwith_cm I2 (base_none I1 (Nat.le_refl _)) c.fi (thn (ha.1.run pos _ s2 σ H1 _ I2 q) fun us s3 z => ?_) hst hpl
  obtain ⟨vs, H2, I3, rv, q2⟩ := z
  refine ⟨⟨pin_at I3, I3.kIn⟩, thn (wpAny_call (PySem.W.method_call (pin_at I3) (run_atS (us := .ref C :: us) (ws := .ref C :: vs) G hr I3.env0 (at_of hx σ) I3 (.cons rfl rv) q2))) fun _ _ y => unpinE y⟩
/-- the i-th slot holds the class -/
def tMakeL (i : Nat) (C : Addr) (sp : Sp) (dvs : List V) (E : XK) (t : TA) : TE := fun σ H Q => σ[i]? = some (some (.ref C)) ∧ tMake C sp dvs E t σ H Q
theorem pe_makeL {CX : CXT} {k i : Nat} {fI : Addr} {fd : FuncData} {ps : List Str} {x : Str} {ds : List Value} {dvs : List V} {sp : Sp} {t : TA} (M : Mk X.K C fI) (F : FnOk X.prog X.w X.K X.mg X.base CX k fI fd ps sp) (hr : Room (k + 1) X.A) (hN : X.N[i]? = some x) (hv : Vis X.env.scope x) (hb : Binds X.K fd ps ds) (hd : Vals dvs ds) (hx : PassS CX X E)
    (ha : PA X (e :: es) t) (hdb : (x == ("__debug__" : Str)) = false := by decide) (hcd : (x == ("__classdict__" : Str)) = false := by decide) (he : starEach (e :: es) X.env = (false, eval e X.env) :: starEach es X.env := by rfl) (hpl : (backTo pos (starEach es X.env)).any (·.1) = false := by rfl) :
    PE X (.Call (.Name x p) (e :: es) [] pos) (fun σ => tMakeL i C sp dvs (E σ) t σ) := by
  constructor
  intro pins s σ H Q I h
  obtain ⟨hs, ht⟩ := h
  refine wpAny_Call_Name_kw (thn ((pe_var (pos := p) hN hv hdb hcd).run pins s σ H (fun v H1 => v = .ref C ∧ H1 = H) I ⟨.ref C, hs, rfl, rfl⟩) fun u s1 z => ?_)
  obtain ⟨v, H1, I1, r1, rfl, rfl⟩ := z
  cases (show u = Value.ref C from r1)
  refine PySem.W.callWith_K (h₀ := X.base) I.ok.mod.kin M.kp (thn (ha.run pos pins s1 σ _ _ I1 ht) fun us s2 z => ?_) he hpl
  obtain ⟨vs, H2, I2, r, q⟩ := z
  exact ⟨I2.kIn, run_mkS M F hr hb hd (at_of hx σ) I2 r q⟩
@[simp] def mkL (i : Nat) (C : Addr) (F : Env → Sto → Res D) : Env → Sto → Res D := fun ρ S => match getD' ρ i with | some (.cls C') => if C' = C then F ρ S else .bad | _ => .bad
theorem de_makeL {CX : CXT} {k n i : Nat} {m : List D → Sto → Res D} {fI : Addr} {fd : FuncData} {ps : List Str} {x : Str} {ds : List Value} {dvs : List V} {dd : List D} (M : Mk X.K C fI) (G : FnOk X.prog X.w X.K X.mg X.base CX k fI fd ps (spF n m)) (hr : Room (k + 1) X.A) (hb : Binds X.K fd ps ds) (hd : Vals dvs ds) (hdd : ∀ η H, RpL η H dd dvs) (hx : PassS CX X E)
    (ha : DA X E (e :: es) tas Fs) (hN : X.N[i]? = some x := by rfl) (hv : Vis X.env.scope x := by first | exact Or.inl rfl | exact Or.inr (Or.inl rfl) | exact Or.inr (Or.inr rfl)) (hdb : (x == ("__debug__" : Str)) = false := by decide) (hcd : (x == ("__classdict__" : Str)) = false := by decide) (he : starEach (e :: es) X.env = (false, eval e X.env) :: starEach es X.env := by rfl) (hpl : (backTo pos (starEach es X.env)).any (·.1) = false := by rfl) :
    DE X E (.Call (.Name x p) (e :: es) [] pos) (fun σ => tMakeL i C (spF n m) dvs (E σ) tas σ) (mkL i C (mkO C n m dd Fs)) := by
  refine ⟨pe_makeL M G hr hN hv hb hd hx ha.1 hdb hcd he hpl, fun η B S σ ρ H w s => ?_⟩
  unfold mkL
  cases q : getD' ρ i with
  | none => trivial
  | some d =>
    cases d <;> first | trivial | skip
    rename_i C'
    dsimp only
    split
    · rename_i hC
      subst hC
      have z := so_make (C := C') (n := n) (m := m) hdd ha.2 η B S σ ρ H w s
      have hi : σ[i]? = some (some (.ref C')) := by
        obtain ⟨v, hv, rv⟩ := s.2 i _ (getD'_at q)
        rw [hv, show v = V.ref C' from rv]
      revert z
      generalize mkO C' n m dd Fs ρ S = rr
      intro z
      cases rr with
      | bad => trivial
      | ok d S' => exact fun Q k => ⟨hi, z Q k⟩
      | exc C fs S' => exact fun Q k => ⟨hi, z Q k⟩
    · trivial
end
end DL
set_option Elab.async false
set_option linter.all false
set_option maxRecDepth 100000
set_option maxHeartbeats 4000000
set_option autoImplicit false
namespace DL
open PySem PySem.Spec PyProof.Rows L2 ClX
/-! ### isinstance of anything -/
@[simp] def tyD (S : Sto) : D → Option D
  | .non => some (.ty "NoneType") | .bl _ => some (.ty "bool") | .int _ => some (.ty "int") | .str _ => some (.ty "str") | .lst _ => some (.ty "list") | .tup _ => some (.ty "tuple") | .dic _ => some (.ty "dict")
  | .obj C _ => some (.cls C)
  | .hot i => (match S[i]? with
    | some (.lst _) => some (.ty "list")
    | some (.dic _) => some (.ty "dict")
    | some (.dit _) => some (.ty "dict")
    | some (.obj C _) => some (.cls C)
    | _ => none)
  | _ => none
def dV : D → Option Value
  | .ty n => some (.type n)
  | .cls C => some (.ref C)
  | _ => none
/-- what isinstance asks of an own class -/
structure IsiC (K : PySem.W.Frag) (C : Addr) : Prop where
  cl : Cls K C
  ca : PySem.W.findIn K (.ref C) "__class__" = some (some (.builtin "object.__class__"))
  cn : PySem.W.specialIn K (.builtin "object.__class__") "__get__" = some (some (.builtin "getset_descriptor.__get__"))
  ct : PySem.W.takesIn K (.builtin "object.__class__") = some true
  cm : PySem.W.mroIn K C (.type "object") = some true
/-- the table f tells true -/
structure IsiF (K : PySem.W.Frag) (f : D → D → Option Bool) : Prop where
  own : ∀ C d b, f (.cls C) d = some b → IsiC K C
  tell : ∀ t d b, f t d = some b → ∃ u v, dV t = some u ∧ dV d = some v ∧ PySem.W.kitOne K u v = some b
@[simp] def fIsiG (f : D → D → Option Bool) (S : Sto) : List D → Option D
  | [x, c] => (tyD S x).bind fun t => (f t c).map .bl
  | _ => none
theorem hot_ty {η B : List Addr} {S : Sto} {H : Hp} {i : Nat} {v : V} {u : HotO} (w : Wd η B S H) (r : Rp η (cold B H) (.hot i) v) (h : S[i]? = some u) : ∃ a, v = .ref a ∧ (match u with
    | .lst _ => ∃ xs, H a = some (.lst xs)
    | .dic _ => ∃ xs, H a = some (.dK xs)
    | .dit _ => ∃ xs, H a = some (.dT xs)
    | .obj C _ => ∃ dx xs, H a = some (.ins C dx xs)
    | .dead => True) := by
  cases u with
  | lst l =>
    obtain ⟨a, e, hη, xs, q, _⟩ := w.hotAt r h
    exact ⟨a, e, xs, q⟩
  | dic l =>
    obtain ⟨a, e, hη, xs, q, _⟩ := w.hotAt r h
    exact ⟨a, e, xs, q⟩
  | dit l =>
    obtain ⟨a, e, hη, xs, q, _⟩ := w.hotAt r h
    exact ⟨a, e, xs, q⟩
  | obj C l =>
    obtain ⟨a, e, hη, dx, xs, q, _⟩ := w.hotAt r h
    exact ⟨a, e, dx, xs, q⟩
  | dead =>
    obtain ⟨a, e, _⟩ := r
    exact ⟨a, e, trivial⟩
theorem rp_tyD {K : PySem.W.Frag} {f : D → D → Option Bool} (F : IsiF K f) {η B : List Addr} {S : Sto} {H : Hp} {x t c : D} {v : V} {b : Bool} (w : Wd η B S H) (r : Rp η (cold B H) x v) (h : tyD S x = some t) (hb : f t c = some b) : ∃ u, dV t = some u ∧ TyX K H v u := by
  cases x <;> (unfold tyD at h) <;> first | (cases h; done) | skip
  · cases h; obtain rfl := r; exact ⟨_, rfl, .base .non⟩
  · cases h; obtain rfl := r; exact ⟨_, rfl, .base (.bl _)⟩
  · cases h; obtain rfl := r; exact ⟨_, rfl, .base (.int _)⟩
  · cases h; obtain rfl := r; exact ⟨_, rfl, .base (.str _)⟩
  · cases h; obtain ⟨a, xs, rfl, ha, _⟩ := r; exact ⟨_, rfl, .base (.lst (cold_of ha).1)⟩
  · cases h; obtain ⟨a, xs, rfl, ha, _⟩ := r; exact ⟨_, rfl, .base (.tup (cold_of ha).1)⟩
  · cases h; obtain ⟨a, o, xs, rfl, ha, _⟩ := r; exact ⟨_, rfl, .fDict (cold_of ha).1⟩
  · cases h
    obtain ⟨a, dx, xs, rfl, ha, _⟩ := r
    have o := F.own _ _ _ hb
    exact ⟨_, rfl, .base (.ins (cold_of ha).1 o.cl o.ca o.cn o.ct o.cm)⟩
  · rename_i i
    dsimp only at h
    cases hi : S[i]? with
    | none => rw [hi] at h; cases h
    | some u =>
      rw [hi] at h
      obtain ⟨a, rfl, q⟩ := hot_ty w r hi
      cases u <;> first | (cases h; done) | skip
      · cases h; obtain ⟨xs, q⟩ := q; exact ⟨_, rfl, .base (.lst q)⟩
      · cases h; obtain ⟨xs, q⟩ := q; exact ⟨_, rfl, .base (.dK q)⟩
      · cases h; obtain ⟨xs, q⟩ := q; exact ⟨_, rfl, .base (.dT q)⟩
      · cases h
        obtain ⟨dx, xs, q⟩ := q
        have o := F.own _ _ _ hb
        exact ⟨_, rfl, .base (.ins q o.cl o.ca o.cn o.ct o.cm)⟩
theorem v_isiG (K : PySem.W.Frag) {f : D → D → Option Bool} (F : IsiF K f) : VN (rIsi K) (fIsiG f) := fun E η B S H ds vs w r => by
  unfold fIsiG
  split
  · rename_i x c
    obtain ⟨v, r2, rfl, rx, u, r3, rfl, rc, rfl⟩ := r
    cases ht : tyD S x with
    | none => trivial
    | some t =>
      show EvD η B E _ H (lift ((f t c).map .bl) S)
      cases hk : f t c with
      | none => trivial
      | some b =>
        obtain ⟨u1, hu1, ty⟩ := rp_tyD F w rx ht hk
        obtain ⟨u2, v2, h1, h2, h3⟩ := F.tell _ _ _ hk
        rw [hu1] at h1
        cases h1
        have cv : ClsV u v2 := by
          cases c <;> first | (cases h2; done) | skip
          · cases h2; rw [show u = _ from rc]; exact .own _
          · cases h2; rw [show u = _ from rc]; exact .ty _
        exact fun Q k => ⟨v, u, _, _, b, rfl, cv, ty, h3, k _ η B H w.refl rfl⟩
  · trivial
/-! ### list(d), int(text), len(d) -/
@[simp] def fListD (S : Sto) : List D → Option D
  | [x] => (vK S x).map fun l => .lst (l.map fun kv => kD kv.1)
  | _ => none
theorem rp_keys {η : List Addr} {H : Hp} : ∀ {l : List (Key × D)} {ws : List (Key × V)}, RpK η H l ws → RpL η H (l.map fun kv => kD kv.1) (ws.map fun kv => kV kv.1)
  | [], _, r => by rw [show _ = [] from r]; rfl
  | (k, d) :: l, _, ⟨v, vs, e, rv, rl⟩ => by subst e; exact ⟨_, _, rfl, kD_rp _ _ _, rp_keys rl⟩
theorem v_listD : VN (fun xs H Q => ∃ (a : Addr) (kvs : List (Key × V)), xs = [V.ref a] ∧ Rd H a (.dK kvs) ∧ ∀ p, H p = none → Q (V.ref p) (upd H p (.lst (kvs.map fun kv => kV kv.1)))) fListD := fun E η B S H ds vs w r => by
  unfold fListD
  split
  · rename_i x
    obtain ⟨v, r2, rfl, rx, rfl⟩ := r
    cases hx : vK S x with
    | none => trivial
    | some l =>
      obtain ⟨a, xs, rfl, ha, ra⟩ := w.seeK rx hx
      exact fun Q k => ⟨a, xs, rfl, ha, fun p hp => k _ _ _ _ (w.new hp) ⟨p, _, rfl, w.cold_new hp, (w.new hp).rpL (rp_keys ra)⟩⟩
  · trivial
@[simp] def fLenD (S : Sto) : List D → Option D
  | [x] => (vK S x).map fun l => .int l.length
  | _ => none
theorem v_lenD : VN rLenK fLenD := fun E η B S H ds vs w r => by
  unfold fLenD
  split
  · rename_i x
    obtain ⟨v, r2, rfl, rx, rfl⟩ := r
    cases hx : vK S x with
    | none => trivial
    | some l =>
      obtain ⟨a, xs, rfl, ha, ra⟩ := w.seeK rx hx
      exact fun Q k => ⟨a, xs, rfl, ha, k _ _ _ _ w.refl (by rw [(rpK_iff.mp ra).length]; rfl)⟩
  · trivial
@[simp] def fIntS (_ : Sto) : List D → Option D
  | [.str a] => if a.length ≤ 640 then (PySem.intText? a).map .int else none
  | _ => none
theorem v_intS : VN (fun xs H Q => ∃ a n, xs = [V.str a] ∧ PySem.intText? a = some n ∧ a.length ≤ 640 ∧ Q (.int n) H) fIntS := fun E η B S H ds vs w r => by
  unfold fIntS
  split
  · rename_i a
    obtain ⟨v, r2, rfl, rfl, rfl⟩ := r
    split
    · rename_i hl
      cases hn : PySem.intText? a with
      | none => trivial
      | some n => exact fun Q k => ⟨a, n, rfl, hn, hl, k _ _ _ _ w.refl rfl⟩
    · trivial
  · trivial
end DL
set_option Elab.async false
set_option linter.all false
set_option maxRecDepth 100000
set_option maxHeartbeats 4000000
set_option autoImplicit false
namespace DL
open PySem PySem.Spec PyProof.Rows L2 ClX
/-! ### defs with defaults -/
abbrev FunT (K : PySem.W.Frag) (x qual : Str) (st : Stmt) (dvs : List V) (f : Addr) (fd : FuncData) : Prop := FunD K x qual (defArgs st) (defBody st) (defScope st) dvs [] f fd
section
variable {P : Program} {w : World} {K : PySem.W.Frag} {mg : Str → Option Value} {base : Heap}
theorem fndD {x qual : Str} {st : Stmt} {dvs : List V} {f : Addr} {fd : FuncData} {N ps : List Str} {k : Nat} (m : List D → Sto → Res D) (F : FunT K x qual st dvs f fd) (Sc : FnScope N ps (defScope st))
    (hbody : ∀ (cdv : Value) (A : Around) (outer : List PySem.Env) (s : Shared) (H : Hp) (E : XK), Room k (A.deeper (envOfC qual (defScope st) s.heap.objs.size f cdv)) →
      ∃ t Φ, DSs (cxOf (L2.CX P w) P w K mg base N qual (defScope st) f cdv A outer s H E) (fun _ => E) (defBody st) t Φ ∧ ∀ ds S, ds.length = ps.length → Imp (m ds S) (runF N Φ ds S)) : FnOk P w K mg base (L2.CX P w) (k + 1) f fd ps (spF ps.length m) := by
  refine F.ok Sc (fun vs H Q E h => ?_) (fun cdv A outer s H vs Q E hr h => ?_)
  · obtain ⟨η, B, S, ds, hl, _, r, _⟩ := h
    rw [r.length, hl]
  · obtain ⟨η, B, S, ds, hl, wd, r, q⟩ := h
    obtain ⟨t, Φ, ⟨pss, so⟩, im⟩ := hbody cdv A outer s H E hr
    exact ⟨t, pss, sv_run so wd r (im ds S hl) q⟩
theorem funt_mk {x qual : Str} {st : Stmt} {f : Addr} {oc : Value} {od an : Option Addr} {osl : Array (Option Value)} {kV doc pm cdv ct : Value} (l : K.lookup f = some ⟨oc, od, .func (PySem.W.fnOf x qual (defArgs st) (defBody st) (defScope st) .none kV doc pm an cdv ct), osl⟩)
    (c : PySem.W.codeIn K cdv qual = true) (k : PySem.W.keepIn K (.ref f) = true) : FunT K x qual st [] f (PySem.W.fnOf x qual (defArgs st) (defBody st) (defScope st) .none kV doc pm an cdv ct) := ⟨⟨oc, od, _, kV, doc, pm, an, cdv, ct, osl, rfl, l, c, .inl ⟨rfl, rfl⟩, .inl rfl⟩, k⟩
/-- one default, None -/
theorem funt_mk1 {x qual : Str} {st : Stmt} {f T : Addr} {oc oc2 : Value} {od an od2 : Option Addr} {n : Nat} {osl osl2 : Array (Option Value)} {kV doc pm cdv ct : Value} (l : K.lookup f = some ⟨oc, od, .func (PySem.W.fnOf x qual (defArgs st) (defBody st) (defScope st) (.ref T) kV doc pm an cdv ct), osl⟩)
    (c : PySem.W.codeIn K cdv qual = true) (k : PySem.W.keepIn K (.ref f) = true) (lT : K.lookup T = some ⟨oc2, od2, .seq #[.none] n, osl2⟩) : FunT K x qual st [.non] f (PySem.W.fnOf x qual (defArgs st) (defBody st) (defScope st) (.ref T) kV doc pm an cdv ct) :=
  ⟨⟨oc, od, _, kV, doc, pm, an, cdv, ct, osl, rfl, l, c, .inr ⟨by simp, T, _, [.none], n, rfl, lT, rfl, .cons rfl .nil⟩, .inl rfl⟩, k⟩
theorem fnr {CX : CXT} {k n : Nat} {f : Addr} {fd : FuncData} {ps : List Str} {m : List D → Sto → Res D} (F : FnOk P w K mg base CX k f fd ps (spF n m)) (hb : Binds K fd ps []) : FnR P w K mg base CX k f (spF n m) :=
  (F.raw hb .nil).imp fun vs H Q E h => by rw [List.append_nil]; exact h
theorem binds_all {x qual : Str} {st : Stmt} {f : Addr} {fd : FuncData} {ps : List Str} (F : FunT K x qual st [.non] f fd)
    (h : ∀ (T : Addr) (kV doc pm : Value) (an : Option Addr) (cdv ct : Value) (us its : List Value), us.length = ps.length → its.length = 1 →
      ∃ k, bindArgs (PySem.W.fnOf x qual (defArgs st) (defBody st) (defScope st) (.ref T) kV doc pm an cdv ct) ⟨us, []⟩ = seqItems? (.ref T) >>= k ∧ k (some its.toArray) = pure (ps.zip (us ++ its.drop 1))) : Binds K fd ps [] := by
  obtain ⟨ds, hv, hb⟩ := F.binds1 ps.length 1 (by simp) rfl h
  cases hv
  exact hb
theorem binds_dfl {x qual : Str} {st : Stmt} {f : Addr} {fd : FuncData} {ps : List Str} (n : Nat) (F : FunT K x qual st [.non] f fd) (hn : n + 1 = ps.length)
    (h : ∀ (T : Addr) (kV doc pm : Value) (an : Option Addr) (cdv ct : Value) (us its : List Value), us.length = n → its.length = 1 →
      ∃ k, bindArgs (PySem.W.fnOf x qual (defArgs st) (defBody st) (defScope st) (.ref T) kV doc pm an cdv ct) ⟨us, []⟩ = seqItems? (.ref T) >>= k ∧ k (some its.toArray) = pure (ps.zip (us ++ its.drop 0))) : Binds K fd ps [.none] := by
  obtain ⟨ds, hv, hb⟩ := F.binds1 n 0 (by simp) hn h
  cases hv with
  | cons r t =>
    cases t
    cases (show _ = Value.none from r)
    exact hb
end
/-! ### which clause takes which error -/
@[simp] def subl (l : List (Addr × Bool)) : Addr → Option Bool := fun C => (l.find? fun p => decide (p.1 = C)).map (·.2)
theorem subl_ok {K : PySem.W.Frag} {c : Value} {l : List (Addr × Bool)} (h : ∀ p ∈ l, PySem.W.exmOne K (.ref p.1) c = some p.2) : ∀ C b, subl l C = some b → PySem.W.exmOne K (.ref C) c = some b := by
  intro C b e
  unfold subl at e
  cases hf : l.find? (fun p => decide (p.1 = C)) with
  | none => rw [hf] at e; cases e
  | some p =>
    rw [hf] at e
    cases e
    have h1 : p.1 = C := by simpa using List.find?_some hf
    have h2 := h p (List.mem_of_find?_eq_some hf)
    rw [h1] at h2
    exact h2
@[simp] def opNinC (S : Sto) (x y : D) : Option D := (opInC S x y).bind fun d => match d with | .bl b => some (.bl (!b)) | _ => none
def rNinC : R2 := fun x y H Q => ∃ (c : Nat) (z : Str), x = .str ⟨#[c]⟩ ∧ y = .str z ∧ Q (.bl (!decide (c ∈ z.cps.toList))) H
theorem v_ninC : V2 rNinC opNinC := fun E η B S H x y u v w rx ry => by
  unfold opNinC opInC
  split
  · rename_i x z
    obtain rfl := rx; obtain rfl := ry
    split
    · rename_i c hc
      have e : x = ⟨#[c]⟩ := by
        obtain ⟨cps⟩ := x
        congr
        exact Array.toList_inj.mp hc
      subst e
      exact fun Q k => ⟨_, _, rfl, rfl, k _ η B H w.refl rfl⟩
    · trivial
  · trivial
/-! ### str(int), str(text) -/
open Classical in
noncomputable def fStrI (_ : Sto) : List D → Option D
  | [.int i] => if i.natAbs.log2 < 1920 then some (.str (toString i)) else none
  | _ => none
theorem v_strI : VN (fun xs H Q => ∃ i, xs = [V.int i] ∧ i.natAbs.log2 < 1920 ∧ Q (.str (toString i)) H) fStrI := fun E η B S H ds vs w r => by
  unfold fStrI
  split
  · rename_i i
    obtain ⟨v, r2, rfl, rfl, rfl⟩ := r
    split
    · rename_i h
      exact fun Q k => ⟨i, rfl, h, k _ _ _ _ w.refl rfl⟩
    · trivial
  · trivial
theorem strI_at {i : Int} (h : i.natAbs.log2 < 1920) (S : Sto) : fStrI S [.int i] = some (.str (toString i)) := if_pos h
@[simp] def fStrS (_ : Sto) : List D → Option D
  | [.str i] => some (.str i)
  | _ => none
theorem v_strS : VN (fun xs H Q => ∃ i, xs = [V.str i] ∧ Q (.str i) H) fStrS := fun E η B S H ds vs w r => by
  unfold fStrS
  split
  · rename_i i
    obtain ⟨v, r2, rfl, rfl, rfl⟩ := r
    exact fun Q k => ⟨i, rfl, k _ _ _ _ w.refl rfl⟩
  · trivial
end DL
set_option Elab.async false
set_option linter.all false
set_option maxRecDepth 100000
set_option maxHeartbeats 4000000
set_option autoImplicit false
namespace DL
open PySem PySem.Spec PyProof.Rows L2
/-! ### loops that may stop -/
inductive Out where
  | ex (C : Addr) (fs : List (Str × D)) | rt (d : D)
@[simp] def Out.fl : Out → Env → Sto → Flow
  | .ex C fs, ρ, S => .ex C fs ρ S
  | .rt d, _, S => .rt d S
@[simp] def Out.res : Out → Sto → Res D
  | .ex C fs, S => .exc C fs S
  | .rt d, S => .ok d S
def LoopEnds {α : Type} (I : α → Env → Sto → Prop) (J : Out → Sto → Prop) (fl : Flow) : Except Out α → Prop
  | .ok a => ∃ ρ S, fl = .nx ρ S ∧ I a ρ S
  | .error e => ∃ ρ S, fl = e.fl ρ S ∧ J e S
def TurnEnds {α : Type} (I : α → Env → Sto → Prop) (J : Out → Sto → Prop) (fl : Flow) : Except Out α → Prop
  | .ok a => ∃ ρ S, (fl = .nx ρ S ∨ fl = .ct ρ S) ∧ I a ρ S
  | .error e => ∃ ρ S, fl = e.fl ρ S ∧ J e S
theorem forF_fold {α : Type} {gF : D → Env → Option Env} {Φ : Env → Sto → Flow} (I : α → Env → Sto → Prop) (J : Out → Sto → Prop) (st : α → D → Except Out α) : ∀ (items : List D) (a : α) (ρ : Env) (S : Sto), I a ρ S →
    (∀ d ∈ items, ∀ a ρ S, I a ρ S → ∃ ρ1, gF d ρ = some ρ1 ∧ TurnEnds I J (Φ ρ1 S) (st a d)) → LoopEnds I J (forF gF Φ items ρ S) (items.foldlM st a)
  | [], a, ρ, S, h, _ => ⟨ρ, S, rfl, h⟩
  | d :: ds, a, ρ, S, h, step => by
    obtain ⟨ρ1, e1, t⟩ := step d List.mem_cons_self a ρ S h
    have rest := fun a ρ S h => forF_fold I J st ds a ρ S h fun d' hd => step d' (List.mem_cons_of_mem _ hd)
    rw [List.foldlM_cons]
    unfold forF
    rw [e1]
    dsimp only
    cases hs : st a d with
    | ok a2 =>
      rw [hs] at t
      obtain ⟨ρ2, S2, e2 | e2, h2⟩ := t
      · rw [e2]; exact rest a2 ρ2 S2 h2
      · rw [e2]; exact rest a2 ρ2 S2 h2
    | error o =>
      rw [hs] at t
      obtain ⟨ρ2, S2, e2, h2⟩ := t
      rw [e2]
      cases o with
      | ex C fs => exact ⟨ρ2, S2, rfl, h2⟩
      | rt d => exact ⟨ρ2, S2, rfl, h2⟩
/-- the first item that does not pass, from the left -/
theorem foldlM_find (p : D → Bool) (o : D → Out) : ∀ (items : List D), items.foldlM (fun (_ : Unit) d => if p d = true then (.error (o d) : Except Out Unit) else .ok ()) () = match items.find? p with | some d => .error (o d) | none => .ok ()
  | [] => rfl
  | d :: ds => by
    rw [List.foldlM_cons, List.find?_cons]
    by_cases h : p d = true
    · rw [if_pos h, h]; rfl
    · have h' : p d = false := by simpa using h
      rw [if_neg h, h']
      exact foldlM_find p o ds
/-- a walk over texts that stops at the first bad one, the store left alone -/
theorem forF_first {gF : D → Env → Option Env} {Φ : Env → Sto → Flow} (I : Env → Prop) (S : Sto) (bad : Str → Bool) (o : Str → Out) : ∀ (ps : List Str) (ρ : Env), I ρ →
    (∀ p ∈ ps, ∀ ρ, I ρ → ∃ ρ1 ρ2, gF (.str p) ρ = some ρ1 ∧ I ρ2 ∧ Φ ρ1 S = if bad p = true then (o p).fl ρ2 S else .nx ρ2 S) →
    ∃ ρ', I ρ' ∧ forF gF Φ (ps.map .str) ρ S = match ps.find? bad with | some p => (o p).fl ρ' S | none => .nx ρ' S
  | [], ρ, h, _ => ⟨ρ, h, rfl⟩
  | p :: ps, ρ, h, step => by
    obtain ⟨ρ1, ρ2, e1, h2, e2⟩ := step p List.mem_cons_self ρ h
    rw [List.map_cons, List.find?_cons]
    unfold forF
    rw [e1]
    dsimp only
    rw [e2]
    by_cases hb : bad p = true
    · rw [if_pos hb, hb]
      refine ⟨ρ2, h2, ?_⟩
      show _ = (o p).fl ρ2 S
      cases o p <;> rfl
    · have hb' : bad p = false := by simpa using hb
      rw [if_neg hb, hb']
      exact forF_first I S bad o ps ρ2 h2 fun q hq => step q (List.mem_cons_of_mem _ hq)
theorem seq_assoc (X Y Z : Env → Sto → Flow) : fSeq X (fSeq Y Z) = fSeq (fSeq X Y) Z := by
  funext ρ S
  show (X ρ S).seq (fSeq Y Z) = ((X ρ S).seq Y).seq Z
  cases X ρ S <;> rfl
theorem seq_run (X Z : Env → Sto → Flow) (ρ : Env) (S : Sto) : fSeq X Z ρ S = (X ρ S).seq Z := rfl
theorem dcF_map {gF : D → Env → Option Env} {T : Env → Sto → Res Bool} {Fk Fv : Env → Sto → Res D} {ρ : Env} {S : Sto} {k : Str → Str} {f : Str → D} : ∀ {ps : List Str} {acc : List (Key × D)}, (∀ p ∈ ps, ∃ ρ1, gF (.str p) ρ = some ρ1 ∧ T ρ1 S = .ok true S ∧ Fk ρ1 S = .ok (.str (k p)) S ∧ Fv ρ1 S = .ok (f p) S) →
    dcF gF T Fk Fv ρ (ps.map .str) S acc = .ok (ps.foldl (fun acc p => putA acc (.inr (k p)) (f p)) acc) S
  | [], acc, _ => rfl
  | p :: ps, acc, h => by
    obtain ⟨ρ1, h1, h2, h3, h4⟩ := h p List.mem_cons_self
    rw [List.map_cons]
    unfold dcF
    rw [h1]
    dsimp only
    rw [h2]
    dsimp only
    rw [h3]
    dsimp only [keyD]
    rw [h4]
    exact dcF_map fun q hq => h q (List.mem_cons_of_mem _ hq)
/-- a dict comprehension over texts, the store left alone -/
theorem dcomp_map {vs : List Nat} {Fi : Env → Sto → Res (List D)} {gF : D → Env → Option Env} {T : Env → Sto → Res Bool} {Fk Fv : Env → Sto → Res D} {ρ : Env} {S S' : Sto} (ps : List Str) (k : Str → Str) (f : Str → D) (hi : Fi ρ S = .ok (ps.map .str) S') (hn : ps.length ≤ 100000)
    (h : ∀ p ∈ ps, ∃ ρ1, gF (.str p) (wipeE ρ vs) = some ρ1 ∧ T ρ1 S' = .ok true S' ∧ Fk ρ1 S' = .ok (.str (k p)) S' ∧ Fv ρ1 S' = .ok (f p) S') :
    dcomp vs Fi gF T Fk Fv ρ S = .ok (.hot S'.length) (S' ++ [.dic (ps.foldl (fun acc p => putA acc (.inr (k p)) (f p)) [])]) := by
  unfold dcomp
  rw [hi]
  show (if (ps.map D.str).length ≤ 100000 then _ else _) = _
  rw [if_pos (by rw [List.length_map]; exact hn), dcF_map h]
  rfl
theorem lc2F_map {gF gF1 : D → Env → Option Env} {T T1 : Env → Sto → Res Bool} {Fi1 : Env → Sto → Res (List D)} {F : Env → Sto → Res D} {vs1 : List Nat} {ρ : Env} {S : Sto} (g : Str → List Str) : ∀ (ps : List Str) (acc : List D), acc.length + (ps.flatMap g).length ≤ 100000 →
    (∀ p ∈ ps, ∃ ρ1, gF (.str p) ρ = some ρ1 ∧ T ρ1 S = .ok true S ∧ Fi1 ρ1 S = .ok ((g p).map .str) S ∧ ∀ q ∈ g p, ∃ ρ2, gF1 (.str q) (wipeE ρ1 vs1) = some ρ2 ∧ T1 ρ2 S = .ok true S ∧ F ρ2 S = .ok (.str q) S) →
    lc2F gF T Fi1 gF1 T1 F vs1 ρ (ps.map .str) S acc = .ok (acc ++ (ps.flatMap g).map .str) S
  | [], acc, _, _ => by simp [lc2F]
  | p :: ps, acc, hn, h => by
    obtain ⟨ρ1, h1, h2, h3, h4⟩ := h p List.mem_cons_self
    rw [List.flatMap_cons, List.length_append] at hn
    rw [List.map_cons]
    unfold lc2F
    rw [h1]
    dsimp only
    rw [h2]
    dsimp only
    rw [h3]
    dsimp only
    rw [if_pos (by rw [List.length_map]; omega)]
    have e := lcF_map (gF := gF1) (T := T1) (F := F) (ρ := wipeE ρ1 vs1) (S := S) (f := id) (items := (g p).map .str) (acc := acc) (fun d hd => by
      obtain ⟨q, hq, rfl⟩ := List.mem_map.mp hd
      exact h4 q hq)
    rw [e]
    dsimp only
    rw [lc2F_map g ps _ (by rw [List.length_append, List.length_map, List.length_map]; omega) fun q hq => h q (List.mem_cons_of_mem _ hq), List.flatMap_cons]
    simp
/-- [q for p in ps for q in g(p)] over texts, the store left alone -/
theorem lcomp2_map {vs vs1 : List Nat} {Fi Fi1 : Env → Sto → Res (List D)} {gF gF1 : D → Env → Option Env} {T T1 : Env → Sto → Res Bool} {F : Env → Sto → Res D} {ρ : Env} {S S' : Sto} (ps : List Str) (g : Str → List Str) (hi : Fi ρ S = .ok (ps.map .str) S') (hn : (ps.flatMap g).length ≤ 100000)
    (h : ∀ p ∈ ps, ∃ ρ1, gF (.str p) (wipeE ρ vs) = some ρ1 ∧ T ρ1 S' = .ok true S' ∧ Fi1 ρ1 S' = .ok ((g p).map .str) S' ∧ ∀ q ∈ g p, ∃ ρ2, gF1 (.str q) (wipeE ρ1 vs1) = some ρ2 ∧ T1 ρ2 S' = .ok true S' ∧ F ρ2 S' = .ok (.str q) S') :
    lcomp2 vs vs1 Fi gF T Fi1 gF1 T1 F ρ S = .ok (.lst ((ps.flatMap g).map .str)) S' := by
  unfold lcomp2
  rw [hi]
  show (lc2F gF T Fi1 gF1 T1 F vs1 (wipeE ρ vs) (ps.map .str) S' []).bind _ = _
  rw [lc2F_map g ps [] (by simpa using hn) h]
  rfl
end DL
set_option Elab.async false
set_option linter.all false
set_option maxRecDepth 100000
set_option maxHeartbeats 4000000
set_option autoImplicit false
namespace DL
open PySem PySem.Spec PyProof.Rows L2
/-! ### freezing, computed -/
section
variable {g g' : Nat → Option D}
mutual
theorem sb_mono (h : ∀ i d, g i = some d → g' i = some d) : ∀ (d : D) {r : D}, sbD g d = some r → sbD g' d = some r
  | .hot i, r, e => h i r e
  | .lst l, r, e => by
    obtain ⟨l', h', rfl⟩ := Option.map_eq_some_iff.mp e
    exact Option.map_eq_some_iff.mpr ⟨l', sb_monoL h l h', rfl⟩
  | .tup l, r, e => by
    obtain ⟨l', h', rfl⟩ := Option.map_eq_some_iff.mp e
    exact Option.map_eq_some_iff.mpr ⟨l', sb_monoL h l h', rfl⟩
  | .dic l, r, e => by
    obtain ⟨l', h', rfl⟩ := Option.map_eq_some_iff.mp e
    exact Option.map_eq_some_iff.mpr ⟨l', sb_monoK h l h', rfl⟩
  | .dit l, r, e => by
    obtain ⟨l', h', rfl⟩ := Option.map_eq_some_iff.mp e
    exact Option.map_eq_some_iff.mpr ⟨l', sb_monoT h l h', rfl⟩
  | .obj C l, r, e => by
    obtain ⟨l', h', rfl⟩ := Option.map_eq_some_iff.mp e
    exact Option.map_eq_some_iff.mpr ⟨l', sb_monoF h l h', rfl⟩
  | .exn a dd l, r, e => by
    obtain ⟨l', h', rfl⟩ := Option.map_eq_some_iff.mp e
    exact Option.map_eq_some_iff.mpr ⟨l', sb_monoF h l h', rfl⟩
  | .non, r, e => e
  | .bl _, r, e => e
  | .int _, r, e => e
  | .str _, r, e => e
  | .cls _, r, e => e
  | .ty _, r, e => e
  | .scr _, r, e => e
theorem sb_monoL (h : ∀ i d, g i = some d → g' i = some d) : ∀ (l : List D) {r : List D}, sbL g l = some r → sbL g' l = some r
  | [], r, e => e
  | d :: l, r, e => by
    obtain ⟨x, h1, e⟩ := Option.bind_eq_some_iff.mp e
    obtain ⟨y, h2, rfl⟩ := Option.map_eq_some_iff.mp e
    exact Option.bind_eq_some_iff.mpr ⟨x, sb_mono h d h1, Option.map_eq_some_iff.mpr ⟨y, sb_monoL h l h2, rfl⟩⟩
theorem sb_monoK (h : ∀ i d, g i = some d → g' i = some d) : ∀ (l : List (Key × D)) {r : List (Key × D)}, sbK g l = some r → sbK g' l = some r
  | [], r, e => e
  | (k, d) :: l, r, e => by
    obtain ⟨x, h1, e⟩ := Option.bind_eq_some_iff.mp e
    obtain ⟨y, h2, rfl⟩ := Option.map_eq_some_iff.mp e
    exact Option.bind_eq_some_iff.mpr ⟨x, sb_mono h d h1, Option.map_eq_some_iff.mpr ⟨y, sb_monoK h l h2, rfl⟩⟩
theorem sb_monoT (h : ∀ i d, g i = some d → g' i = some d) : ∀ (l : List (List Key × D)) {r : List (List Key × D)}, sbT g l = some r → sbT g' l = some r
  | [], r, e => e
  | (k, d) :: l, r, e => by
    obtain ⟨x, h1, e⟩ := Option.bind_eq_some_iff.mp e
    obtain ⟨y, h2, rfl⟩ := Option.map_eq_some_iff.mp e
    exact Option.bind_eq_some_iff.mpr ⟨x, sb_mono h d h1, Option.map_eq_some_iff.mpr ⟨y, sb_monoT h l h2, rfl⟩⟩
theorem sb_monoF (h : ∀ i d, g i = some d → g' i = some d) : ∀ (l : List (Str × D)) {r : List (Str × D)}, sbF g l = some r → sbF g' l = some r
  | [], r, e => e
  | (k, d) :: l, r, e => by
    obtain ⟨x, h1, e⟩ := Option.bind_eq_some_iff.mp e
    obtain ⟨y, h2, rfl⟩ := Option.map_eq_some_iff.mp e
    exact Option.bind_eq_some_iff.mpr ⟨x, sb_mono h d h1, Option.map_eq_some_iff.mpr ⟨y, sb_monoF h l h2, rfl⟩⟩
end
end
theorem sb_monoO {g g' : Nat → Option D} (h : ∀ i d, g i = some d → g' i = some d) (o : HotO) {r : HotO} (e : sbO g o = some r) : sbO g' o = some r := by
  cases o with
  | lst l => obtain ⟨x, h1, rfl⟩ := Option.map_eq_some_iff.mp e; exact Option.map_eq_some_iff.mpr ⟨x, sb_monoL h l h1, rfl⟩
  | dic l => obtain ⟨x, h1, rfl⟩ := Option.map_eq_some_iff.mp e; exact Option.map_eq_some_iff.mpr ⟨x, sb_monoK h l h1, rfl⟩
  | dit l => obtain ⟨x, h1, rfl⟩ := Option.map_eq_some_iff.mp e; exact Option.map_eq_some_iff.mpr ⟨x, sb_monoT h l h1, rfl⟩
  | obj C l => obtain ⟨x, h1, rfl⟩ := Option.map_eq_some_iff.mp e; exact Option.map_eq_some_iff.mpr ⟨x, sb_monoF h l h1, rfl⟩
  | dead => exact e
theorem sb_monoS {g g' : Nat → Option D} (h : ∀ i d, g i = some d → g' i = some d) : ∀ (S : List HotO) {r : List HotO}, sbS g S = some r → sbS g' S = some r
  | [], r, e => e
  | o :: S, r, e => by
    obtain ⟨x, h1, e⟩ := Option.bind_eq_some_iff.mp e
    obtain ⟨y, h2, rfl⟩ := Option.map_eq_some_iff.mp e
    exact Option.bind_eq_some_iff.mpr ⟨x, sb_monoO h o h1, Option.map_eq_some_iff.mpr ⟨y, sb_monoS h S h2, rfl⟩⟩
/-- only what stands below n is named -/
def upTo (n : Nat) : Nat → Option D := fun i => if i < n then some (.hot i) else none
def Low (n : Nat) (d : D) : Prop := sbD (upTo n) d = some d
def LowS (n : Nat) (S : Sto) : Prop := sbS (upTo n) S = some S
theorem upTo_frz {dk : Bool} {S : Sto} {n f : Nat} : ∀ i d, upTo n i = some d → frzI dk S n (f + 1) i = some d := fun i d h => by
  unfold upTo at h
  unfold frzI
  by_cases hi : i < n
  · rw [if_pos hi] at h ⊢
    exact h
  · rw [if_neg hi] at h
    cases h
/-- a new dict, its items low: frozen -/
theorem stl_dic {S : Sto} {l : List (Key × D)} (hS : LowS S.length S) (hl : sbK (upTo S.length) l = some l) : stlD true S.length (.ok (.hot S.length) (S ++ [.dic l])) = .ok (.dic l) S := by
  unfold stlD
  have e1 : sbD (frzI true (S ++ [.dic l]) S.length ((S ++ [HotO.dic l]).length + 1)) (.hot S.length) = some (.dic l) := by
    show frzI true (S ++ [.dic l]) S.length ((S ++ [HotO.dic l]).length + 1) S.length = _
    rw [List.length_append]
    unfold frzI
    rw [if_neg (Nat.lt_irrefl _), List.getElem?_append_right (Nat.le_refl _), Nat.sub_self]
    show (if true = true then (sbK (frzI true (S ++ [.dic l]) S.length (S.length + 1)) l).map D.dic else none) = _
    rw [if_pos rfl, sb_monoK upTo_frz l hl]
    rfl
  have e2 : sbS (frzI true (S ++ [.dic l]) S.length ((S ++ [HotO.dic l]).length + 1)) ((S ++ [HotO.dic l]).take S.length) = some S := by
    rw [List.take_left]
    exact sb_monoS upTo_frz S hS
  dsimp only
  rw [e1, e2]
end DL
set_option Elab.async false
set_option linter.all false
set_option maxRecDepth 100000
set_option maxHeartbeats 4000000
set_option autoImplicit false
namespace DL
open PySem PySem.Spec PyProof.Rows L2
/-! ### x in a tuple or list of flat items -/
@[simp] def flD : D → Option V
  | .non => some .non
  | .bl b => some (.bl b)
  | .int i => some (.int i)
  | .str z => some (.str z)
  | _ => none
@[simp] def flL : List D → Option (List V)
  | [] => some []
  | d :: ds => (flD d).bind fun v => (flL ds).map (v :: ·)
theorem flD_rp {η : List Addr} {H : Hp} {d : D} {u v : V} (h : flD d = some u) (r : Rp η H d v) : v = u ∧ flatV u = true := by
  cases d <;> first | (cases h; done) | (cases h; obtain rfl := r; exact ⟨rfl, rfl⟩)
theorem flL_rp {η : List Addr} {H : Hp} : ∀ {ds : List D} {us vs : List V}, flL ds = some us → RpL η H ds vs → vs = us ∧ us.all flatV = true
  | [], us, vs, h, r => by
    cases h
    cases vs with
    | nil => exact ⟨rfl, rfl⟩
    | cons a b => exact absurd r (by intro z; cases z)
  | d :: ds, us, vs, h, r => by
    obtain ⟨u, h1, h⟩ := Option.bind_eq_some_iff.mp h
    obtain ⟨us, h2, rfl⟩ := Option.map_eq_some_iff.mp h
    obtain ⟨v, vs', rfl, r1, r2⟩ := r
    obtain ⟨rfl, f1⟩ := flD_rp h1 r1
    obtain ⟨rfl, f2⟩ := flL_rp h2 r2
    exact ⟨rfl, by rw [List.all_cons, f1, f2]; rfl⟩
def opInT (neg : Bool) (S : Sto) (x y : D) : Option D := (flD x).bind fun v => (seqD S y).bind fun l => (flL l).map fun vs => .bl (if neg then !inV v vs else inV v vs)
theorem or_inT {X : Cx} {K : PySem.W.Frag} (hK : X.K = K := by rfl) : OpR X (compareOp .In) (rIn K false) := by subst hK; exact op_in_seq
theorem or_ninT {X : Cx} {K : PySem.W.Frag} (hK : X.K = K := by rfl) : OpR X (compareOp .NotIn) (rIn K true) := by subst hK; exact op_notIn_seq
theorem v_inT (K : PySem.W.Frag) (neg : Bool) : V2 (rIn K neg) (opInT neg) := fun E η B S H x y u v w rx ry => by
  unfold opInT
  cases hx : flD x with
  | none => trivial
  | some x' =>
    cases hy : seqD S y with
    | none => trivial
    | some l =>
      cases hl : flL l with
      | none => simp only [Option.bind_some, hl]; trivial
      | some vs =>
        simp only [Option.bind_some, hl]
        obtain ⟨a, xs, rfl, hs, rl⟩ := see_seq (K := K) w ry hy
        obtain ⟨rfl, f1⟩ := flD_rp hx rx
        obtain ⟨rfl, f2⟩ := flL_rp hl rl
        exact fun Q k => ⟨a, xs, rfl, hs.symm, f1, f2, k _ _ _ _ w.refl rfl⟩
/-! ### what is new is left behind -/
theorem stl_ok {dk : Bool} {S T : Sto} {d : D} (hS : LowS S.length S) (hd : Low S.length d) : stlD dk S.length (.ok d (S ++ T)) = .ok d S := by
  unfold stlD
  dsimp only
  rw [List.take_left, sb_monoS upTo_frz S hS, sb_mono upTo_frz d hd]
theorem stl_exc {dk : Bool} {S T : Sto} {C : Addr} {fs : List (Str × D)} (hS : LowS S.length S) (hd : sbF (DL.upTo S.length) fs = some fs) : stlD dk S.length (.exc C fs (S ++ T)) = .exc C fs S := by
  unfold stlD
  dsimp only
  rw [List.take_left, sb_monoS upTo_frz S hS, sb_monoF upTo_frz fs hd]
theorem stl_ok0 {dk : Bool} {S : Sto} {d : D} (hS : LowS S.length S) (hd : Low S.length d) : stlD dk S.length (.ok d S) = .ok d S := by
  have := stl_ok (dk := dk) (T := []) hS hd
  rwa [List.append_nil] at this
theorem stl_exc0 {dk : Bool} {S : Sto} {C : Addr} {fs : List (Str × D)} (hS : LowS S.length S) (hd : sbF (DL.upTo S.length) fs = some fs) : stlD dk S.length (.exc C fs S) = .exc C fs S := by
  have := stl_exc (dk := dk) (T := []) (C := C) hS hd
  rwa [List.append_nil] at this
/-! ### f() -/
theorem de_call0 {X : Cx} {E : EK} {pos p : Pos} {CX : CXT} {n k : Nat} {m : List D → Sto → Res D} {f : Addr} {fd : FuncData} {ps : List Str} {x : Str} (G : FnOk X.prog X.w X.K X.mg X.base CX k f fd ps (spF n m)) (hr : Room k X.A) (hm : X.mg x = some (.ref f)) (hk : PySem.W.keepIn X.K (.ref f) = true) (hb : Binds X.K fd ps [])
    (hx : PassS CX X E) (hg : Gl X x := by rfl) (hdb : (x == ("__debug__" : Str)) = false := by decide) : DE X E (.Call (.Name x p) [] [] pos) (tCallS' (spF n m) E tNil) (callF n m fNilA) := by
  refine ⟨⟨fun pins s σ H Q I h => ?_⟩, so_call (da_nil (X := X)).2⟩
  refine wpAny_Call_Name_kw (ld_glob I hg hm ?_ hdb)
  exact PySem.W.callWith_K0 I.kIn hk (run_fnSD (us := []) (dvs := []) G hr hb .nil (fun pins H s e s' I c => hx pins σ H s e s' I c) I .nil h)
/-! ### list * int -/
theorem RpL.rep {η : List Addr} {H : Hp} {ds : List D} {xs : List V} (r : RpL η H ds xs) : ∀ k : Nat, RpL η H (List.replicate k ds).flatten (List.replicate k xs).flatten
  | 0 => rfl
  | k + 1 => by
    rw [List.replicate_succ, List.replicate_succ, List.flatten_cons, List.flatten_cons]
    exact r.append (RpL.rep r k)
def opRep (S : Sto) (x y : D) : Option D := match y with
  | .int k => (vL S x).bind fun l => if l.length ≤ 100 ∧ 0 ≤ k ∧ k ≤ 100 then some (.lst (List.replicate k.toNat l).flatten) else none
  | _ => none
theorem v_rep : V2 rRep opRep := fun E η B S H x y u v w rx ry => by
  unfold opRep
  split
  · rename_i k
    obtain rfl := ry
    cases hx : vL S x with
    | none => trivial
    | some l =>
      obtain ⟨a, xs, rfl, ha, ra⟩ := w.seeL rx hx
      simp only [Option.bind_some]
      split
      · rename_i c
        obtain ⟨c1, c2, c3⟩ := c
        have hl : xs.length * k.toNat ≤ 100 * 100 := Nat.mul_le_mul (by rw [ra.length]; exact c1) (by omega)
        refine fun Q kk => ⟨a, k, xs, rfl, rfl, ha, Int.le_trans (by decide) c2, Int.lt_of_le_of_lt c3 (by decide), Nat.le_trans hl (by decide), fun p hp => kk _ _ _ _ (w.new hp) ⟨p, _, rfl, w.cold_new hp, (w.new hp).rpL (ra.rep _)⟩⟩
      · trivial
  · trivial
/-! ### a def that is called anywhere is called where no repr is under way -/
theorem FnOk.toG {P : Program} {w : World} {K : PySem.W.Frag} {mg : Str → Option Value} {base : Heap} {CX : CXT} {k : Nat} {f : Addr} {fd : FuncData} {ps : List Str} {sp : Sp} (G : FnOk P w K mg base CX k f fd ps sp) (hb : Binds K fd ps []) : FnG P w K mg base CX k f sp := by
  intro A outer s H us vs Q E hr hG e0 r h
  have len : us.length = ps.length := r.length.symm.trans (G.len _ _ _ _ h)
  have bt := hb s us (e0.mod.kin.keeps fun b o e => (e0.bs b o e).1) (by rw [List.append_nil]; exact len)
  rw [List.append_nil] at bt
  exact G.run A outer s H ⟨us, []⟩ us vs Q E hr e0 bt r h
end DL
set_option Elab.async false
set_option linter.all false
set_option maxRecDepth 100000
set_option maxHeartbeats 4000000
set_option autoImplicit false
namespace DL
open PySem PySem.Spec PyProof.Rows L2
/-! ### methods of a hot list: pop(i), insert(i, x) -/
@[simp] def fHotM (f : List D → List D → Option (D × List D)) (Fo : Env → Sto → Res D) (Fs : Env → Sto → Res (List D)) : Env → Sto → Res D := fun ρ S => (Fo ρ S).bind fun x S1 => match x with
  | .hot i => (match hotL S1 i with
    | some _ => (Fs ρ S1).bind fun ds S2 => (match hotL S2 i with
      | some l => (match f l ds with
        | some (d, l') => .ok d (S2.set i (.lst l'))
        | none => .bad)
      | none => .bad)
    | none => .bad)
  | _ => .bad
def HotMR (r : V → List V → Hp → VK → Prop) (f : List D → List D → Option (D × List D)) : Prop :=
  ∀ (l ds : List D) (d : D) (l' : List D), f l ds = some (d, l') → ∀ (η : List Addr) (Hc H : Hp) (q : Addr) (xs vs : List V), H q = some (.lst xs) → RpL η Hc l xs → RpL η Hc ds vs → ∃ y ys, Rp η Hc d y ∧ RpL η Hc l' ys ∧ ∀ Q : VK, Q y (upd H q (.lst ys)) → r (.ref q) vs H Q
section
variable {X : Cx} {E : EK} {e o : Expr} {es : List Expr} {to : TE} {tas : TA} {Fo : Env → Sto → Res D} {Fs : Env → Sto → Res (List D)} {pos apos : Pos}
theorem de_hotM {K : PySem.W.Frag} {name : Str} {id : String} {r : V → List V → Hp → VK → Prop} {f : List D → List D → Option (D × List D)} (slot : Slot "list" name id) (hty : typeOf (.builtin id) = pure (.type "method_descriptor")) (hm : MtR X id r) (hf : HotMR r f) (ho : DE X E o to Fo) (ha : DA X E (e :: es) tas Fs) (hK : X.K = K := by rfl)
    (hbase : attributeBase o name X.env (eval o X.env) = eval o X.env := by rfl)
    (hfew : ((backTo pos (starEach (e :: es) X.env)).all (fun x => !x.1) && (backToKw pos (keywordEach [] X.env)).all (fun x => x.1.isSome) && decide ((e :: es).length + ([] : List Keyword).length + (if ([] : List Keyword).isEmpty then 0 else 1) < 30)) = true := by rfl)
    (hline : (apos.endLine == pos.line) = true := by rfl) (hs : starEach (e :: es) X.env = (false, eval e X.env) :: starEach es X.env := by rfl) (hpl : (backTo pos (starEach es X.env)).any (·.1) = false := by rfl) :
    DE X E (.Call (.Attribute o name apos) (e :: es) [] pos) (tBM K "list" r to tas) (fHotM f Fo Fs) := by
  subst hK
  refine ⟨pe_bm PySem.F.plainAttrs_list slot hty hm ho.1 ha.1 hbase hfew hline hs hpl, fun η B S σ ρ H w s => ?_⟩
  refine Ev.bind (T := to σ H) (T' := fun x H1 Q => tyV X.K "list" x H1 ∧ tas σ H1 fun ys H2 => r x ys H2 Q) (ho.2 η B S σ ρ H w s) fun x S1 u η1 B1 H1 n1 r1 => ?_
  cases x <;> first | trivial | skip
  rename_i i
  dsimp only
  cases h0 : hotL S1 i with
  | none => trivial
  | some l0 =>
  obtain ⟨q, rfl, hq⟩ := r1
  obtain ⟨xs0, hx0, _⟩ := n1.wd.hot i q _ hq (hotL_eq h0)
  have z := Ev.bind (R := fun η Hc ds vs => RpL η Hc ds vs) (R' := fun η Hc d v => Rp η Hc d v) (T := tas σ H1) (T' := fun ys H2 Q => r (V.ref q) ys H2 Q) (k := fun ds S2 => (match hotL S2 i with
      | some l => (match f l ds with
        | some (d, l') => Res.ok d (S2.set i (.lst l'))
        | none => .bad)
      | none => .bad)) (ha.2 η1 B1 S1 σ ρ H1 n1.wd (n1.sl s)) fun ds S2 vs η2 B2 H2 n2 r2 => by
    split
    · rename_i l hl
      split
      · rename_i d l' hfe
        obtain ⟨xs, hx, rl⟩ := n2.wd.hot i q _ (n2.up _ _ hq) (hotL_eq hl)
        obtain ⟨y, ys, ry, rys, qq⟩ := hf l ds d l' hfe η2 (cold B2 H2) H2 q xs vs hx rl r2
        exact fun Q k => qq Q (by
          have nn := n2.wd.setHot (n2.up _ _ hq) (u := .lst l') (o := .lst ys) ⟨_, upd_same, ?_⟩
          · exact k _ _ _ _ nn (nn.rp ry)
          · exact rys)
      · trivial
    · trivial
  revert z
  generalize (Res.bind (Fs ρ S1) fun ds S2 => (match hotL S2 i with
      | some l => (match f l ds with
        | some (d, l') => Res.ok d (S2.set i (.lst l'))
        | none => .bad)
      | none => .bad)) = rr
  intro z
  cases rr with
  | bad => trivial
  | ok d S' => exact fun Q k => ⟨.inl ⟨rfl, _, .inl (.inl hx0)⟩, z Q k⟩
  | exc C fs S' => exact fun Q k => ⟨.inl ⟨rfl, _, .inl (.inl hx0)⟩, z Q k⟩
end
def popAt (l ds : List D) : Option (D × List D) := match ds with
  | [.int k] => if l.length ≤ 100000 then (ixN l.length k).bind fun j => l[j]?.map fun d => (d, l.eraseIdx j) else none
  | _ => none
def insAt (l ds : List D) : Option (D × List D) := match ds with
  | [.int k, d] => if l.length < 100000 ∧ 0 ≤ k ∧ k ≤ 100000 then some (.non, l.take k.toNat ++ [d] ++ l.drop k.toNat) else none
  | _ => none
theorem RpL.erase {η : List Addr} {H : Hp} : ∀ {ds : List D} {xs : List V} (j : Nat), RpL η H ds xs → RpL η H (ds.eraseIdx j) (xs.eraseIdx j)
  | [], xs, j, r => by obtain rfl := r; exact rfl
  | d :: ds, xs, 0, r => by obtain ⟨v, vs, rfl, _, r2⟩ := r; exact r2
  | d :: ds, xs, j + 1, r => by
    obtain ⟨v, vs, rfl, r1, r2⟩ := r
    exact ⟨v, vs.eraseIdx j, rfl, r1, RpL.erase j r2⟩
theorem hr_pop : HotMR rPopAt popAt := fun l ds d l' h η Hc H q xs vs hq rl rd => by
  unfold popAt at h
  split at h
  · rename_i k
    split at h
    · rename_i hl
      obtain ⟨j, hj, h⟩ := Option.bind_eq_some_iff.mp h
      obtain ⟨d0, hd, h⟩ := Option.map_eq_some_iff.mp h
      cases h
      obtain ⟨v, r2, rfl, rfl, rfl⟩ := rd
      obtain ⟨y, hy, ry⟩ := rl.got hd
      obtain ⟨g1, g2, g3, g4⟩ := ixN_seq hj
      refine ⟨y, xs.eraseIdx j, ry, rl.erase j, fun Q k' => ⟨q, xs, k, j, y, rfl, rfl, hq, ?_, ?_, ?_, hy, k'⟩⟩
      · have : -(100000 : Int) ≤ k := by omega
        exact Int.le_trans (by decide) this
      · have : k < (100000 : Int) := by omega
        exact Int.lt_of_lt_of_le this (by decide)
      · rw [rl.length]; exact g1
    · cases h
  · cases h
theorem hr_ins : HotMR (fun x vs H Q => ∃ (l : Addr) (xs : List V) (i : Int) (y : V), x = .ref l ∧ vs = [.int i, y] ∧ H l = some (.lst xs) ∧ xs.length < sizeLine ∧ 0 ≤ i ∧ i < 2 ^ 63 ∧ Q .non (upd H l (.lst (xs.take i.toNat ++ [y] ++ xs.drop i.toNat)))) insAt := fun l ds d l' h η Hc H q xs vs hq rl rd => by
  unfold insAt at h
  split at h
  · rename_i k d0
    split at h
    · rename_i hl
      cases h
      obtain ⟨v, r2, rfl, rfl, y, r3, rfl, ry, rfl⟩ := rd
      refine ⟨.non, xs.take k.toNat ++ [y] ++ xs.drop k.toNat, rfl, ((rl.take _).append (show RpL η Hc [_] [y] from ⟨y, [], rfl, ry, rfl⟩)).append (rl.drop _), fun Q k' => ⟨q, xs, k, y, rfl, rfl, hq, ?_, hl.2.1, ?_, k'⟩⟩
      · rw [rl.length]; exact Nat.lt_of_lt_of_le hl.1 (by decide)
      · exact Int.lt_of_le_of_lt hl.2.2 (by decide)
    · cases h
  · cases h
/-! ### dict(d): a new hot dict -/
@[simp] def fDictC (S : Sto) : List D → Res D
  | [x] => (match vK S x with
    | some l => .ok (.hot S.length) (S ++ [.dic l])
    | none => .bad)
  | _ => .bad
theorem vg_dictC (E0 : XK) : VG E0 (fun xs H Q => ∃ (a : Addr) (kvs : List (Key × V)), xs = [V.ref a] ∧ Rd H a (.dK kvs) ∧ ∀ p, H p = none → Q (V.ref p) (upd H p (.dK kvs))) fDictC := fun η B S H ds vs w r => by
  unfold fDictC
  split
  · rename_i x
    obtain ⟨v, r2, rfl, rx, rfl⟩ := r
    split
    · rename_i l hx
      obtain ⟨a, ws, rfl, ha, ra⟩ := w.seeK rx hx
      exact fun Q k => ⟨a, ws, rfl, ha, fun p hp => k _ _ _ _ (w.alloc (u := .dic _) hp ⟨ws, upd_same, ((w.hide hp).rpK ra).up (up_snoc _ _)⟩) ⟨p, rfl, w.at_new⟩⟩
    · trivial
  · trivial
/-! ### a[i], b[j] = (x, y) -/
@[simp] def fSwp (F Fo Fi Go Gi : Env → Sto → Res D) : Env → Sto → Flow := fun ρ S => (F ρ S).flow ρ fun t S1 => match t with
  | .tup [d, e] => (Fo ρ S1).flow ρ fun x S2 => (Fi ρ S2).flow ρ fun y S3 => (match x, y with
    | .hot i, .int k => (match hotL S3 i with
      | some l => (match ixN l.length k with
        | some j => (Go ρ (S3.set i (.lst (l.set j d)))).flow ρ fun x' S4 => (Gi ρ S4).flow ρ fun y' S5 => (match x', y' with
          | .hot i', .int k' => (match hotL S5 i' with
            | some l' => (match ixN l'.length k' with
              | some j' => .nx ρ (S5.set i' (.lst (l'.set j' e)))
              | none => .bad)
            | none => .bad)
          | _, _ => .bad)
        | none => .bad)
      | none => .bad)
    | _, _ => .bad)
  | _ => .bad
section
variable {X : Cx} {E : EK} {e o1 o2 i1 i2 : Expr} {pos p1 p2 pt : Pos} {kt : Nat} {te to1 to2 ti1 ti2 : TE} {F Fo Fi Go Gi : Env → Sto → Res D}
theorem ds_swp {K : PySem.W.Frag} (he : DE X E e te F) (ho1 : DE X E o1 to1 Fo) (hi1 : DE X E i1 ti1 Fi) (ho2 : DE X E o2 to2 Go) (hi2 : DE X E i2 ti2 Gi) (hK : X.K = K := by rfl) (hc : X.calm = true := by rfl)
    (ha1 : ∀ v, assign (.Subscript o1 i1 p1) X.env v = (do
      let ov ← holding [v] (eval o1 X.env)
      let iv ← holding [v, ov] (eval i1 X.env)
      standAt p1
      holding [v, ov, iv] (setItem ov iv v)
      release [v, ov, iv] []) := by intro _; rfl)
    (ha2 : ∀ v, assign (.Subscript o2 i2 p2) X.env v = (do
      let ov ← holding [v] (eval o2 X.env)
      let iv ← holding [v, ov] (eval i2 X.env)
      standAt p2
      holding [v, ov, iv] (setItem ov iv v)
      release [v, ov, iv] []) := by intro _; rfl)
    (g1 : (assignEach [.Subscript o1 i1 p1, .Subscript o2 i2 p2] X.env).map (·.2) = assign (.Subscript o1 i1 p1) X.env :: (assignEach [.Subscript o2 i2 p2] X.env).map (·.2) := by rfl)
    (g2 : (assignEach [.Subscript o2 i2 p2] X.env).map (·.2) = assign (.Subscript o2 i2 p2) X.env :: (assignEach [] X.env).map (·.2) := by rfl)
    (hn : (assignEach [.Subscript o1 i1 p1, .Subscript o2 i2 p2] X.env).length = 2 := by rfl) (hst : (assignEach [.Subscript o1 i1 p1, .Subscript o2 i2 p2] X.env).findIdx? (·.1) = none := by rfl)
    (hs : swapsWithSole [.Tuple [.Subscript o1 i1 p1, .Subscript o2 i2 p2] kt pt] e pos.line X.env = pure false := by rfl) (hw : swappedStores [.Tuple [.Subscript o1 i1 p1, .Subscript o2 i2 p2] kt pt] e X.env = pure none := by rfl)
    (h1 : (assignEach [.Tuple [.Subscript o1 i1 p1, .Subscript o2 i2 p2] kt pt] X.env).map (·.2) = [assign (.Tuple [.Subscript o1 i1 p1, .Subscript o2 i2 p2] kt pt) X.env] := by rfl) :
    DS X E (.Assign [.Tuple [.Subscript o1 i1 p1, .Subscript o2 i2 p2] kt pt] e pos) (tAsg te (gTup K 2 (gCons (gSub to1 ti1 rSetL) (gCons (gSub to2 ti2 rSetL) gNil)))) (fSwp F Fo Fi Go Gi) := by
  subst hK
  refine ⟨ps_asg he.1 (pg_tup hc (pgs_cons (pg_sub ho1.1 hi1.1 set_list ha1) (pgs_cons (pg_sub ho2.1 hi2.1 set_list ha2) pgs_nil g2) g1) hn hst) hs hw h1, fun η B S σ ρ H w s => ?_⟩
  have key : ∀ (v1 v2 : V) (t : V), True := fun _ _ _ => trivial
  refine Sv.of s (T := te σ H) (T' := fun v H1 D => gTup X.K 2 (gCons (gSub to1 ti1 rSetL) (gCons (gSub to2 ti2 rSetL) gNil)) v σ H1 D.nx) (he.2 η B S σ ρ H w s) fun t S1 v η1 B1 H1 n1 r1 => ?_
  split
  · rename_i d e'
    obtain ⟨q, xs, rfl, hq, v1, ys, rfl, rd1, v2, zs, rfl, rd2, rfl⟩ := r1
    have hsq : SqT X.K H1 q [v1, v2] := .inl (.inl (cold_of hq).1)
    have inner : Sv η1 B1 (E) (fun D => to1 σ H1 fun o H1' => ti1 σ H1' fun i H2 => rSetL o i v1 H2 fun H3 => ∃ v r, [v2] = v :: r ∧ to2 σ H3 fun o H3' => ti2 σ H3' fun i H4 => rSetL o i v H4 fun H5 => r = [] ∧ D.nx σ H5) H1 ((Fo ρ S1).flow ρ fun x S2 => (Fi ρ S2).flow ρ fun y S3 => (match x, y with
    | .hot i, .int k => (match hotL S3 i with
      | some l => (match ixN l.length k with
        | some j => (Go ρ (S3.set i (.lst (l.set j d)))).flow ρ fun x' S4 => (Gi ρ S4).flow ρ fun y' S5 => (match x', y' with
          | .hot i', .int k' => (match hotL S5 i' with
            | some l' => (match ixN l'.length k' with
              | some j' => .nx ρ (S5.set i' (.lst (l'.set j' e')))
              | none => .bad)
            | none => .bad)
          | _, _ => .bad)
        | none => .bad)
      | none => .bad)
    | _, _ => .bad)) := by
      refine Sv.of (n1.sl s) (T := to1 σ H1) (T' := fun o H1' D => ti1 σ H1' fun i H2 => rSetL o i v1 H2 fun H3 => ∃ v r, [v2] = v :: r ∧ to2 σ H3 fun o H3' => ti2 σ H3' fun i H4 => rSetL o i v H4 fun H5 => r = [] ∧ D.nx σ H5) (ho1.2 η1 B1 S1 σ ρ H1 n1.wd (n1.sl s)) fun x S2 u η2 B2 H2 n2 r2 => ?_
      refine Sv.of (n2.sl (n1.sl s)) (T := ti1 σ H2) (T' := fun i H3 D => rSetL u i v1 H3 fun H3 => ∃ v r, [v2] = v :: r ∧ to2 σ H3 fun o H3' => ti2 σ H3' fun i H4 => rSetL o i v H4 fun H5 => r = [] ∧ D.nx σ H5) (hi1.2 η2 B2 S2 σ ρ H2 n2.wd (n2.sl (n1.sl s))) fun y S3 y' η3 B3 H3 n3 r3 => ?_
      split
      · rename_i i k
        obtain ⟨q1, rfl, hq1⟩ := r2
        obtain rfl := r3
        split
        · rename_i l hl
          split
          · rename_i j hj
            obtain ⟨xs1, hx1, rl⟩ := n3.wd.hot i q1 _ (n3.up _ _ hq1) (hotL_eq hl)
            have rd := n3.rp (n2.rp rd1)
            have nn : Nx η3 B3 η3 B3 (S3.set i (.lst (l.set j d))) H3 (upd H3 q1 (.lst (xs1.set j v1))) := n3.wd.setHot (n3.up _ _ hq1) ⟨_, upd_same, rl.set j rd⟩
            have slx := nn.sl (n3.sl (n2.sl (n1.sl s)))
            have rest : Sv η3 B3 (E) (fun D => to2 σ (upd H3 q1 (.lst (xs1.set j v1))) fun o H3' => ti2 σ H3' fun i H4 => rSetL o i v2 H4 fun H5 => ([] : List V) = [] ∧ D.nx σ H5) (upd H3 q1 (.lst (xs1.set j v1))) ((Go ρ (S3.set i (.lst (l.set j d)))).flow ρ fun x' S4 => (Gi ρ S4).flow ρ fun y' S5 => (match x', y' with
          | .hot i', .int k' => (match hotL S5 i' with
            | some l' => (match ixN l'.length k' with
              | some j' => .nx ρ (S5.set i' (.lst (l'.set j' e')))
              | none => .bad)
            | none => .bad)
          | _, _ => .bad)) := by
              refine Sv.of slx (T := to2 σ (upd H3 q1 (.lst (xs1.set j v1)))) (T' := fun o H3' D => ti2 σ H3' fun i H4 => rSetL o i v2 H4 fun H5 => ([] : List V) = [] ∧ D.nx σ H5) (ho2.2 η3 B3 _ σ ρ _ nn.wd slx) fun x' S4 u' η4 B4 H4 n4 r4 => ?_
              refine Sv.of (n4.sl slx) (T := ti2 σ H4) (T' := fun i H5 D => rSetL u' i v2 H5 fun H6 => ([] : List V) = [] ∧ D.nx σ H6) (hi2.2 η4 B4 S4 σ ρ H4 n4.wd (n4.sl slx)) fun y' S5 y'' η5 B5 H5 n5 r5 => ?_
              split
              · rename_i i' k'
                obtain ⟨q2, rfl, hq2⟩ := r4
                obtain rfl := r5
                split
                · rename_i l' hl'
                  split
                  · rename_i j' hj'
                    obtain ⟨xs2, hx2, rl2⟩ := n5.wd.hot i' q2 _ (n5.up _ _ hq2) (hotL_eq hl')
                    have rd' := n5.rp (n4.rp (nn.rp (n3.rp (n2.rp rd2))))
                    have n6 : Nx η5 B5 η5 B5 (S5.set i' (.lst (l'.set j' e'))) H5 (upd H5 q2 (.lst (xs2.set j' v2))) := n5.wd.setHot (n5.up _ _ hq2) ⟨_, upd_same, rl2.set j' rd'⟩
                    exact fun D kk => ⟨q2, xs2, k', j', rfl, rfl, hx2, by rw [rl2.length]; exact hj', rfl, kk σ _ _ _ n6 (n6.sl (n5.sl (n4.sl slx)))⟩
                  · trivial
                · trivial
              · trivial
            have wrap : ∀ fl : Flow, Sv η3 B3 E (fun D => to2 σ (upd H3 q1 (.lst (xs1.set j v1))) fun o H3' => ti2 σ H3' fun i H4 => rSetL o i v2 H4 fun H5 => ([] : List V) = [] ∧ D.nx σ H5) (upd H3 q1 (.lst (xs1.set j v1))) fl →
                Sv η3 B3 E (fun D => rSetL (.ref q1) (.int k) v1 H3 fun H3 => ∃ v r, [v2] = v :: r ∧ to2 σ H3 fun o H3' => ti2 σ H3' fun i H4 => rSetL o i v H4 fun H5 => r = [] ∧ D.nx σ H5) H3 fl := by
              intro fl hfl
              have put : ∀ D : Ends, (to2 σ (upd H3 q1 (.lst (xs1.set j v1))) fun o H3' => ti2 σ H3' fun i H4 => rSetL o i v2 H4 fun H5 => ([] : List V) = [] ∧ D.nx σ H5) → rSetL (.ref q1) (.int k) v1 H3 fun H3 => ∃ v r, [v2] = v :: r ∧ to2 σ H3 fun o H3' => ti2 σ H3' fun i H4 => rSetL o i v H4 fun H5 => r = [] ∧ D.nx σ H5 := fun D h => ⟨q1, xs1, k, j, rfl, rfl, hx1, by rw [rl.length]; exact hj, v2, [], rfl, h⟩
              cases fl with
              | nx ρ' S' => exact fun D kk => put D (hfl D fun σ' η' B' H' n' s' => kk σ' η' B' H' (nn.trans n') s')
              | rt d' S' => exact fun D kk => put D (hfl D fun v η' B' H' n' s' => kk v η' B' H' (nn.trans n') s')
              | bk ρ' S' => exact fun D kk => put D (hfl D fun σ' η' B' H' n' s' => kk σ' η' B' H' (nn.trans n') s')
              | ct ρ' S' => exact fun D kk => put D (hfl D fun σ' η' B' H' n' s' => kk σ' η' B' H' (nn.trans n') s')
              | ex C fs ρ' S' => exact fun D kk => put D (hfl D fun σ' dd ws η' B' H' n' e1 e2 e3 s' => kk σ' dd ws η' B' H' (nn.trans n') (nn.back e1) e2 e3 s')
              | bad => exact hfl
            exact wrap _ rest
          · trivial
        · trivial
      · trivial
    have conv : ∀ fl : Flow, Sv η1 B1 E (fun D => to1 σ H1 fun o H1' => ti1 σ H1' fun i H2 => rSetL o i v1 H2 fun H3 => ∃ v r, [v2] = v :: r ∧ to2 σ H3 fun o H3' => ti2 σ H3' fun i H4 => rSetL o i v H4 fun H5 => r = [] ∧ D.nx σ H5) H1 fl →
        Sv η1 B1 E (fun D => gTup X.K 2 (gCons (gSub to1 ti1 rSetL) (gCons (gSub to2 ti2 rSetL) gNil)) (.ref q) σ H1 D.nx) H1 fl := by
      intro fl hfl
      have put : ∀ D : Ends, (to1 σ H1 fun o H1' => ti1 σ H1' fun i H2 => rSetL o i v1 H2 fun H3 => ∃ v r, [v2] = v :: r ∧ to2 σ H3 fun o H3' => ti2 σ H3' fun i H4 => rSetL o i v H4 fun H5 => r = [] ∧ D.nx σ H5) → gTup X.K 2 (gCons (gSub to1 ti1 rSetL) (gCons (gSub to2 ti2 rSetL) gNil)) (.ref q) σ H1 D.nx := fun D h => ⟨q, [v1, v2], rfl, hsq, rfl, v1, [v2], rfl, h⟩
      cases fl with
      | nx ρ' S' => exact fun D kk => put D (hfl D kk)
      | rt d' S' => exact fun D kk => put D (hfl D kk)
      | bk ρ' S' => exact fun D kk => put D (hfl D kk)
      | ct ρ' S' => exact fun D kk => put D (hfl D kk)
      | ex C fs ρ' S' => exact fun D kk => put D (hfl D kk)
      | bad => exact hfl
    exact conv _ inner
  · trivial
end
end DL
set_option Elab.async false
set_option linter.all false
set_option maxRecDepth 100000
set_option maxHeartbeats 4000000
set_option autoImplicit false
namespace DL
open PySem PySem.Spec PyProof.Rows L2
/-! ### sorted(d, key=f), d a dict of texts -/
def rSortKD (f : Addr) (m : List D → Sto → Res D) : List V → List V → Hp → VK → Prop := fun vs zs H Q => ∃ (a : Addr) (kvs : List (Key × V)) (ks : List Str) (η B : List Addr) (S : Sto) (key : D → D), vs = [.ref a] ∧ zs = [.ref f] ∧ Rd H a (.dK kvs) ∧ kvs.map (·.1) = ks.map Sum.inr ∧ ks.length ≤ 100000 ∧ Wd η B S H ∧
  (∀ d ∈ ks.map D.str, m [d] S = .ok (key d) S) ∧ encOk ((ks.map D.str).map key) ∧ ∀ ys p η' B' H', Nx η B η' B' S H H' → H' p = none → RpL η' (cold B' H') ((ks.map D.str).mergeSort (PySem.W.dataLe false fun d => enc (key d))) ys → Q (.ref p) (upd H' p (.lst ys))
theorem rp_texts {η : List Addr} {H : Hp} : ∀ ks : List Str, RpL η H (ks.map D.str) (ks.map V.str)
  | [] => rfl
  | k :: ks => ⟨.str k, ks.map V.str, rfl, rfl, rp_texts ks⟩
theorem cr_sortedKD {X : Cx} {k : Nat} {f : Addr} {fd : FuncData} {ps : List Str} {m : List D → Sto → Res D} (G : FnOk X.prog X.w X.K X.mg X.base (L2.CX X.prog X.w) k f fd ps (spF 1 m)) (hb : Binds X.K fd ps []) (hr : Room (k + 2) X.A) (hcalm : X.calm = true) :
    CallRK X (.builtin "sorted") [Str.ofString "key"] (rSortKD f m) := by
  intro pins s σ H vs0 zs us ws Q I r rz h
  obtain ⟨a0, kvs, ks, η, B, S, key, rfl, rfl, hd, hks, hkl, wd, hm, ok, q⟩ := h
  obtain rfl := Vals.ref1 r
  obtain ⟨w1, rfl, e1⟩ := vals1 rz
  obtain rfl : w1 = Value.ref f := e1
  obtain ⟨z, lo, vs, rel, dd⟩ := dk_rd I.hok hd
  obtain ⟨ep, hat⟩ := dd.dictAt
  have hkeys : vs.map (·.1) = ks.map Sum.inr := rel.keys.symm.trans hks
  have hl : vs.length = ks.length := by
    have e := congrArg List.length hkeys
    rw [List.length_map, List.length_map] at e
    exact e
  have h16 : vs.length ≤ sizeLine := by rw [hl]; exact size_ok hkl
  have hr1 : Room k X.A.in1.in1 := (hr.in1).in1
  show wpAny _ _ (call (.builtin "sorted") [.ref a0] [(Str.ofString "key", .ref f)]) _ _ _
  refine call_function_entry_kw PyProof.Rows.kind_sorted PyProof.Rows.plain_sorted PyProof.Rows.entry_sorted (PyProof.Rows.ksk_s1 _ _) ?_
  unfold Builtin.«sorted»
  refine wpAny_bind (m := checkCount "sorted" 1 1 _) (wpAny_pure ?_)
  refine wpAny_bind (PySem.W.kdu_collect (A := X.A.in1) (PySem.W.kdl_dict (knd := mixKind X.prog X.w) (kvs := vs) (ep := ep) lo) (I.ok.hd hcalm) hat h16 fun h' tk acc hk hacc => ?_)
  have hal : acc.toList.length = ks.length := by rw [Array.length_toList, hacc.1, hl]
  have hS : StrsAre acc.toList ks := strs_at hal fun j v e => by
    obtain ⟨k, x, e1, e2⟩ := hacc.2 j v (by rw [← Array.getElem?_toList]; exact e)
    have e3 : (vs.map (·.1))[j]? = some k := by rw [List.getElem?_map, e1]; all_goals rfl
    rw [hkeys, List.getElem?_map] at e3
    cases e4 : ks[j]? with
    | none => rw [e4] at e3; cases e3
    | some y =>
      rw [e4] at e3
      have e5 : Sum.inr y = k := Option.some.inj e3
      subst e5
      obtain ⟨t, ev⟩ := Value.isStrOf_shape (x := y) (v := v) e2
      exact ⟨y, t, rfl, ev⟩
  have rv : Vals (ks.map V.str) acc.toList := vals_of_strs hS
  have hZ : acc.toList.length ≤ sizeLine := by rw [hal]; exact size_ok hkl
  have I1 : Inv X pins σ H { s with heap := h', toks := tk } := I.kept hk
  refine wpAny_bind (wpAny_newList ?_ hZ)
  have hoL : (h'.push (seqObj "list" acc.toList.toArray 0)).get? h'.objs.size = some (seqObj "list" acc.toList.toArray 0) := Heap.get?_push_size _ rfl
  show wpAny _ _ _ _ _ { s with heap := h'.push (seqObj "list" acc.toList.toArray 0), toks := tk }
  refine wpAny_bind (wpAny_holding (wpAny_call_entry_kw PyProof.Rows.slot_list_sort ⟨_, hoL, rfl⟩ PyProof.Rows.entry_list_sort ?body (PyProof.Rows.ksk_l1 _ _)))
  case body =>
    show wpAny (model X.prog X.w) X.A.in1.in1 (Builtin.«list.sort» ⟨[.ref h'.objs.size], [(Str.ofString "key", .ref f)]⟩) _ _ _
    have main : ∀ E' : Value → Shared → Prop, wpAny (model X.prog X.w) X.A.in1.in1 (Builtin.«list.sort» ⟨[.ref h'.objs.size], [(Str.ofString "key", .ref f)]⟩) (fun fl s' => fl = .done (.ret .none) ∧ EP X pins σ Q (.ref h'.objs.size) s') E' { s with heap := h'.push (seqObj "list" acc.toList.toArray 0), toks := tk } := by
      intro E'
      rw [PyProof.Rows.ksk_t1]
      obtain ⟨n, hn⟩ : ∃ n, n = h'.objs.size := ⟨_, rfl⟩
      rw [← hn] at hoL ⊢
      have n1 : X.s_0.heap.objs.size ≤ n := by rw [hn]; exact I1.sz
      have n2 : X.env.locals < n := by rw [hn]; exact I1.lt
      have n3 : ∀ x c, X.env.cells.lookup x = some c → c < n := fun x c e => by
        obtain ⟨v, o, ho, _⟩ := I1.cell x c e
        rw [hn]; exact Heap.lt_size ho
      have n4 : ∀ p ∈ X.pn ++ pins, p.1 < n := fun p hp => by rw [hn]; exact Heap.lt_size (I1.pin p hp).1
      obtain ⟨e1, ho1⟩ : ∃ e1, ((h'.push (seqObj "list" acc.toList.toArray 0)).update n (Obj.mapSeq fun _ => (#[] : Array Value))).get? n = some (seqObj "list" #[] e1) := ⟨_, get?_update_seq hoL fun _ => #[]⟩
      unfold ksk_tree
      refine wpAny_bind (listItems_at hoL rfl ?_)
      refine wpAny_bind (listUpdate_at hoL rfl ?_ (by rw [List.size_toArray]; exact hZ) (Nat.zero_le _))
      refine wpAny_bind (seqEpoch_at ho1 rfl ?_)
      refine wpAny_bind (wpAny_newTuple ?_ (by show acc.toList.length ≤ _; exact hZ))
      refine wpAny_bind (wpAny_newList ?_ (Nat.zero_le _))
      refine wpAny_holding ?_
      have hsz1 : (h'.push (seqObj "list" acc.toList.toArray 0)).objs.size = n + 1 := by
        rw [size_push', ← hn]
      refine sort_rest (n := n) (a := n) (ds := ks.map D.str) G hb hr1 hr.units n1 n2 n3 n4 ?J ?nk ?na ?hka ?hk1 (Nat.le_refl _) ?fk ?fa rv wd (rp_texts ks) hm ok q
      case J =>
        have old : ∀ b o, h'.get? b = some o → ((((h'.push (seqObj "list" acc.toList.toArray 0)).update n (Obj.mapSeq fun _ => (#[] : Array Value))).push (seqObj "tuple" acc.toList.toArray 0)).push (seqObj "list" #[] 0)).get? b = some o := fun b o q => by
          have hb : b ≠ n := fun z => by
            have l := Heap.lt_size q
            rw [z, ← hn] at l
            exact absurd l (Nat.lt_irrefl n)
          exact Heap.get?_push_of_some _ (Heap.get?_push_of_some _ (((Heap.SameBut.update _ _ _).2 b hb).trans (Heap.get?_push_of_some _ q)))
        exact I1.un (t' := tk) (Un.kept old) (I1.hok.kept old)
      case nk => exact Heap.get?_push_size _ rfl
      case na => exact Heap.get?_push_of_some _ (Heap.get?_push_of_some _ ho1)
      case hka =>
        rw [size_push', Heap.size_update, hsz1]
        exact fun z => by
          have z' : (n + 1 + 1 : Nat) = n := z
          omega
      case hk1 =>
        rw [size_push', Heap.size_update, hsz1]
        omega
      case fk =>
        refine I1.hok.fresh ?_
        show h'.objs.size ≤ _
        rw [size_push', Heap.size_update, hsz1, ← hn]
        omega
      case fa => exact I1.hok.fresh (by show h'.objs.size ≤ n; rw [hn]; exact Nat.le_refl _)
    refine wpAny_mono (main _) (fun fl s' hf => ?_) fun _ _ e => e
    obtain ⟨rfl, hq⟩ := hf
    exact ⟨_, rfl, wpAny_pure ⟨_, rfl, hq⟩⟩
section
variable {X : Cx} {E : EK} {e : Expr} {te : TE} {F : Env → Sto → Res D} {p pos kp npos : Pos}
def strKs : List (Key × D) → Option (List Str)
  | [] => some []
  | (.inr k, _) :: r => (strKs r).map (k :: ·)
  | _ => none
@[simp] noncomputable def sortKD (m : List D → Sto → Res D) (F : Env → Sto → Res D) : Env → Sto → Res D := fun ρ S => (F ρ S).bind fun d S1 => match vK S1 d with
  | some l => (match strKs l with
    | some ks => fSortK m (ks.map D.str) S1
    | none => .bad)
  | none => .bad
theorem strKs_rp {η : List Addr} {H : Hp} : ∀ {l : List (Key × D)} {ws : List (Key × V)} {ks : List Str}, strKs l = some ks → RpK η H l ws → ws.map (·.1) = ks.map Sum.inr
  | [], ws, ks, h, r => by cases h; obtain rfl := r; rfl
  | (.inr k, d) :: l, ws, ks, h, r => by
    obtain ⟨ks', h1, rfl⟩ := Option.map_eq_some_iff.mp h
    obtain ⟨v, vs, rfl, _, t⟩ := r
    rw [List.map_cons, List.map_cons, strKs_rp h1 t]
  | (.inl k, d) :: l, ws, ks, h, r => by cases h
theorem de_sortKD {k : Nat} {f : Addr} {fd : FuncData} {ps : List Str} {x : Str} {m : List D → Sto → Res D} (G : FnOk X.prog X.w X.K X.mg X.base (L2.CX X.prog X.w) k f fd ps (spF 1 m)) (hb : Binds X.K fd ps []) (hr : Room (k + 2) X.A) (hm : X.mg "sorted" = none) (hx : X.mg x = some (.ref f)) (h : DE X E e te F)
    (hc : X.calm = true := by rfl) (hg : Gl X "sorted" := by rfl) (hgx : Gl X x := by rfl) (hdx : (x == ("__debug__" : Str)) = false := by decide)
    (hs : starEach [e] X.env = (false, eval e X.env) :: starEach [] X.env := by rfl) (he : backTo pos (starEach [e] X.env) = (false, eval e X.env) :: backTo pos (starEach [] X.env) := by rfl) (hpl : (backTo pos (starEach [e] X.env)).any (·.1) = false := by rfl)
    (hall : (backToKw pos (keywordEach [⟨some "key", .Name x npos, kp⟩] X.env)).all (·.1.isSome) = true := by rfl) (hnone : (backToKw pos (keywordEach [⟨some "key", .Name x npos, kp⟩] X.env)).any (·.1.isNone) = false := by rfl) (hks : (backToKw pos (keywordEach [⟨some "key", .Name x npos, kp⟩] X.env)).filterMap (·.1) = [Str.ofString "key"] := by rfl) :
    DE X E (.Call (.Name "sorted" p) [e] [⟨some "key", .Name x npos, kp⟩] pos) (tCKw (rSortKD f m) (tCons te tNil) (tCons (tC (.ref f)) tNil)) (sortKD m F) := by
  refine ⟨pe_callBK (cr_sortedKD G hb hr hc) hg hm (by decide +kernel) (pa_cons h.1 pa_nil hs) (pk_cons (pe_glob (v := .ref f) hgx hx rfl hdx) pk_nil) (by decide) (by decide) he hpl hall hnone hks, fun η B S σ ρ H w s => ?_⟩
  refine Ev.bind (T := te σ H) (T' := fun v H1 Q => rSortKD f m [v] [V.ref f] H1 Q) (h.2 η B S σ ρ H w s) fun d S1 v η1 B1 H1 n1 r1 => ?_
  cases hd : vK S1 d with
  | none => trivial
  | some l =>
  dsimp only
  cases hk : strKs l with
  | none => trivial
  | some ks =>
  obtain ⟨a, ws, rfl, ha, ra⟩ := n1.wd.seeK r1 hd
  show EvD η1 B1 (E σ) _ H1 (fSortK m (ks.map D.str) S1)
  unfold fSortK
  split
  · rename_i hh
    have hsp := hh.choose_spec
    exact fun Q kk => ⟨a, ws, ks, η1, B1, S1, hh.choose, rfl, rfl, ha, strKs_rp hk ra, by have := hsp.2.2.2.2.2; simpa using this, n1.wd, hsp.1, hsp.2, fun ys p η' B' H' nx hp ry => kk _ _ _ _ (nx.trans (nx.wd.new hp)) ⟨p, ys, rfl, nx.wd.cold_new hp, (nx.wd.new hp).rpL ry⟩⟩
  · trivial
end
/-! ### a.split(b): the new list is hot -/
section
variable {X : Cx} {E : EK} {a b : Expr} {ta tb : TE} {Fa Fb : Env → Sto → Res D} {pos apos : Pos}
@[simp] def mS1R (f : Sto → Str → D → Res D) (Fa Fb : Env → Sto → Res D) : Env → Sto → Res D := fun ρ S => (Fa ρ S).bind fun x S1 => match x with
  | .str z => (Fb ρ S1).bind fun y S2 => f S2 z y
  | _ => .bad
theorem so_m1R {r : V → List V → Hp → VK → Prop} {f : Sto → Str → D → Res D} (hr : ∀ (E : XK) (η B : List Addr) (S : Sto) (H : Hp) (z : Str) (y : D) (v : V), Wd η B S H → Rp η (cold B H) y v → EvD η B E (r (.str z) [v] H) H (f S z y))
    (ha : SoE E ta Fa) (hb : SoE E tb Fb) : SoE E (tM1 r ta tb) (mS1R f Fa Fb) := fun η B S σ ρ H w s => by
  refine Ev.bind (T := ta σ H) (T' := fun x H1 Q => (∃ a, x = V.str a) ∧ tb σ H1 fun y H2 => r x [y] H2 Q) (ha η B S σ ρ H w s) fun x S1 u η1 B1 H1 n1 r1 => ?_
  cases x <;> first | trivial | skip
  rename_i z
  obtain rfl := r1
  have q := Ev.bind (R := fun η Hc d v => Rp η Hc d v) (R' := fun η Hc d v => Rp η Hc d v) (T := tb σ H1) (T' := fun y H2 Q => r (V.str z) [y] H2 Q) (k := fun y S2 => f S2 z y) (hb η1 B1 S1 σ ρ H1 n1.wd (n1.sl s)) fun y S2 v η2 B2 H2 n2 r2 => hr (E σ) η2 B2 S2 H2 z y v n2.wd r2
  show EvD η1 B1 (E σ) _ H1 ((Fb ρ S1).bind fun y S2 => f S2 z y)
  revert q
  generalize ((Fb ρ S1).bind fun y S2 => f S2 z y) = rr
  intro q
  cases rr with
  | bad => trivial
  | ok d S' => exact fun Q k => ⟨⟨z, rfl⟩, q Q k⟩
  | exc C fs S' => exact fun Q k => ⟨⟨z, rfl⟩, q Q k⟩
@[simp] def fSplitH (S : Sto) (a : Str) : D → Res D
  | .str b => if b.length ≠ 0 ∧ a.length ≤ 100000 then .ok (.hot S.length) (S ++ [.lst ((Txt.split a b).map .str)]) else .bad
  | _ => .bad
theorem de_splitH (ha : DE X E a ta Fa) (hb : DE X E b tb Fb) (hs : starEach [b] X.env = [(false, eval b X.env)] := by rfl) (hbase : attributeBase a "split" X.env (eval a X.env) = eval a X.env := by rfl) (hline : (apos.endLine == pos.line) = true := by rfl) :
    DE X E (.Call (.Attribute a "split" apos) [b] [] pos) (tM1 (fun x xs H Q => ∃ a b, x = V.str a ∧ xs = [V.str b] ∧ (b.length == 0) = false ∧ a.length + 2 ≤ sizeLine ∧ rNewStrs (Txt.split a b) H Q) ta tb) (mS1R fSplitH Fa Fb) := by
  refine ⟨pe_split ha.1 hb.1 hs hbase hline, so_m1R (fun E η B S H z y v w r => ?_) ha.2 hb.2⟩
  unfold fSplitH
  split
  · rename_i b'
    obtain rfl := r
    split
    · rename_i c
      exact fun Q k => ⟨_, b', rfl, rfl, by simpa using c.1, Nat.le_trans (Nat.add_le_add_right c.2 2) (by decide), fun p hp => k _ _ _ _ (w.alloc (u := .lst _) hp ⟨_, upd_same, RpL.of_strs _⟩) ⟨p, rfl, w.at_new⟩⟩
    · trivial
  · trivial
end
end DL
set_option Elab.async false
set_option linter.all false
set_option maxRecDepth 100000
set_option maxHeartbeats 4000000
set_option autoImplicit false
namespace DL
open PySem PySem.Spec PyProof.Rows L2
section
variable {X : Cx} {E : EK} {e : Expr} {es : List Expr} {kws : List Keyword} {te : TE} {tas tks : TA} {F : Env → Sto → Res D} {Fs Fk : Env → Sto → Res (List D)} {pos p apos cpos : Pos}
/-! ### continue -/
@[simp] def fCont : Env → Sto → Flow := fun ρ S => .ct ρ S
theorem ds_cont : DS X E (.Continue pos) tCont fCont := ⟨ps_continue, fun η B S σ ρ H w s D k => k σ η B H w.refl s⟩
/-! ### C(e, .., k = v, ..) -/
def tApp (nk : Nat) (t tk : TA) : TA := fun σ H Q => t σ H fun vs H1 => tk σ H1 fun zs H2 => zs.length = nk ∧ Q (vs ++ zs) H2
@[simp] def appA (nk : Nat) (F G : Env → Sto → Res (List D)) : Env → Sto → Res (List D) := fun ρ S => (F ρ S).bind fun ds S1 => (G ρ S1).bind fun es S2 => if es.length = nk then .ok (ds ++ es) S2 else .bad
theorem so_app {nk : Nat} (ha : SoA E tas Fs) (hb : SoA E tks Fk) : SoA E (tApp nk tas tks) (appA nk Fs Fk) := fun η B S σ ρ H w s => by
  refine Ev.bind (T := tas σ H) (T' := fun vs H1 Q => tks σ H1 fun zs H2 => zs.length = nk ∧ Q (vs ++ zs) H2) (ha η B S σ ρ H w s) fun ds S1 vs η1 B1 H1 n1 r1 => ?_
  refine Ev.bind (T := tks σ H1) (T' := fun zs H2 Q => zs.length = nk ∧ Q (vs ++ zs) H2) (hb η1 B1 S1 σ ρ H1 n1.wd (n1.sl s)) fun es S2 zs η2 B2 H2 n2 r2 => ?_
  split
  · rename_i hl
    exact fun Q k => ⟨r2.length.trans hl, k _ _ _ _ n2.wd.refl ((n2.rpL r1).append r2)⟩
  · trivial
def KwP (K : PySem.W.Frag) (fd : FuncData) (ps : List Str) (n : Nat) (ks : List Str) : Prop := n + ks.length = ps.length ∧ ∀ (s : Shared) (us ws : List Value), K.In s.heap → us.length = n → ws.length = ks.length → BindsTo s fd ⟨us, ks.zip ws⟩ (ps.zip (us ++ ws))
theorem run_mkSK {CX : CXT} {k np : Nat} {C fI : Addr} {fd : FuncData} {ps ks : List Str} {sp : Sp} {E0 : XK} {pins : List (Addr × Obj)} {σ : L2.St} {H : Hp} {s : Shared} {Q : VK} {us ws : List Value} {vs zs : List V} (M : Mk X.K C fI) (G : FnOk X.prog X.w X.K X.mg X.base CX k fI fd ps sp) (hr : Room (k + 1) X.A) (hb : KwP X.K fd ps np ks) (hx : PassesAt CX X σ E0) (I : Inv X pins σ H s) (r : Vals vs us) (rz : Vals zs ws) (hl : ws.length = ks.length)
    (h : ∀ x dx, H x = none → H dx = none → dx ≠ x → sp (.ref x :: ((vs ++ zs) ++ [])) (upd (upd H dx (.own x)) x (.ins C dx [])) (fun v H2 => v = .non ∧ Q (.ref x) H2) E0) : wpAny (model X.prog X.w) X.A (call (.ref C) us (ks.zip ws)) (EP X pins σ Q) X.xe s := by
  let x := s.heap.objs.size + 1
  have want := h x s.heap.objs.size (I.hok.fresh (Nat.le_succ _)) (I.hok.fresh (Nat.le_refl _)) (Nat.ne_of_lt (Nat.lt_succ_self _))
  rw [List.append_nil] at want
  have J := Inv.made (C := C) I
  have rel : Vals (V.ref x :: (vs ++ zs)) ((Value.ref x :: us) ++ ws) := .cons rfl (r.append rz)
  have len : (Value.ref x :: us ++ ws).length = ps.length := (rel.length.symm.trans (G.len _ _ _ _ want))
  refine wpAny_call (make_map (f := fI) I.kIn M.makes M.init (beq_iff_eq.mp M.fn) (codeAny_mono (G.run _ X.stack _ _ ⟨Value.ref x :: us, ks.zip ws⟩ ((Value.ref x :: us) ++ ws) _ _ E0 (hr.make C us (ks.zip ws)) (J.env0.make C us (ks.zip ws)) (hb.2 _ (Value.ref x :: us) ws J.kIn (by have := hb.1; rw [List.length_append] at len; omega) hl) rel want) fun res s' z => ?_))
  match res, z with
  | .error e, z => exact hx pins _ _ e s' J z
  | .ok (.ret u), z =>
    obtain ⟨v, H', I3, rv, rfl, q3⟩ := J.after z
    exact ⟨rv, ⟨V.ref x, H', I3, rfl, q3⟩⟩
  | .ok .next, z => exact z.elim
  | .ok .brk, z => exact z.elim
  | .ok .cont, z => exact z.elim
theorem de_makeK {CX : CXT} {k n np : Nat} {m : List D → Sto → Res D} {C fI : Addr} {fd : FuncData} {ps ks : List Str} {x : Str} (M : Mk X.K C fI) (G : FnOk X.prog X.w X.K X.mg X.base CX k fI fd ps (spF n m)) (hr : Room (k + 1) X.A) (hm : X.mg x = some (.ref C)) (hb : KwP X.K fd ps np ks) (hx : PassS CX X E)
    (ha : DA X E (e :: es) tas Fs) (hk : DK X E kws tks Fk) (hg : Gl X x := by rfl) (hdb : (x == ("__debug__" : Str)) = false := by decide) (he : starEach (e :: es) X.env = (false, eval e X.env) :: starEach es X.env := by rfl)
    (hall : (backToKw pos (keywordEach kws X.env)).all (·.1.isSome) = true := by rfl) (hks : (backToKw pos (keywordEach kws X.env)).filterMap (·.1) = ks := by rfl)
    (hpl : ((backTo pos (starEach (e :: es) X.env)).any (·.1) || (backToKw pos (keywordEach kws X.env)).any (·.1.isNone)) = false := by rfl) :
    DE X E (.Call (.Name x p) (e :: es) kws pos) (fun σ => tMake C (spF n m) [] (E σ) (tApp ks.length tas tks) σ) (mkO C n m [] (appA ks.length Fs Fk)) := by
  refine ⟨⟨fun pins s σ H Q I h => ?_⟩, so_make (fun _ _ => rfl) (so_app ha.2 hk.2)⟩
  refine wpAny_Call_Name_kw (ld_glob I hg hm ?_ hdb)
  refine PySem.W.callWith_KW (h₀ := X.base) I.ok.mod.kin M.kp hall (thn (ha.1.run pos pins s σ H _ I h) fun us s1 z => ?_) hpl he
  obtain ⟨vs, H1, I1, r, q⟩ := z
  refine thn (hk.1.run pos pins s1 σ H1 _ I1 q) fun ws s2 z => ?_
  obtain ⟨zs, H2, I2, rz, hz, q2⟩ := z
  refine ⟨I2.kIn, ?_⟩
  rw [hks]
  exact run_mkSK M G hr hb (at_of hx σ) I2 r rz (rz.length.symm.trans hz) q2
end
/-! ### dict(pairs): a new hot dict -/
def pairsD : List D → Option (List (Key × D))
  | [] => some []
  | .tup [a, b] :: l => (keyD a).bind fun k => (pairsD l).map ((k, b) :: ·)
  | _ => none
@[simp] def fDictP (S : Sto) : List D → Res D
  | [x] => (match (vL S x).bind pairsD with
    | some l => .ok (.hot S.length) (S ++ [.dic (mergeA [] l)])
    | none => .bad)
  | _ => .bad
theorem pairsD_rp {K : PySem.W.Frag} {η B : List Addr} {H : Hp} : ∀ {l : List D} {kvs : List (Key × D)} {vs : List V}, pairsD l = some kvs → RpL η (cold B H) l vs → ∃ (ps : List Addr) (ws : List (Key × V)), vs = ps.map V.ref ∧ Paired (fun p kv => SqT K H p [kV kv.1, kv.2]) ps ws ∧ EachA (Rp η (cold B H)) kvs ws
  | [], kvs, vs, h, r => by
    cases h
    obtain rfl := r
    exact ⟨[], [], rfl, .nil, rfl⟩
  | d :: l, kvs, vs, h, r => by
    obtain ⟨v, vs', rfl, rd, rl⟩ := r
    unfold pairsD at h
    split at h
    · cases h; rename_i q; cases q
    · rename_i a b l' q
      cases q
      obtain ⟨k, h1, h⟩ := Option.bind_eq_some_iff.mp h
      obtain ⟨kvs', h2, rfl⟩ := Option.map_eq_some_iff.mp h
      obtain ⟨ps, ws, e, hp, ea⟩ := pairsD_rp (K := K) h2 rl
      obtain ⟨t, xs, rfl, ht, rt⟩ := rd
      obtain ⟨x, r1, rfl, rx, y, r2, rfl, ry, rfl⟩ := rt
      obtain rfl := keyD_rp h1 rx
      exact ⟨t :: ps, (k, y) :: ws, by rw [e]; rfl, .cons (.inl (.inl (cold_le _ _ ht))) hp, ⟨y, ws, rfl, ry, ea⟩⟩
    · cases h
theorem vg_dictP {K : PySem.W.Frag} (E0 : XK) : VG E0 (fun xs H Q => ∃ (a : Addr) (ps : List Addr) (kvs : List (Key × V)), xs = [.ref a] ∧ SqL K H a (ps.map V.ref) ∧ Paired (fun p kv => SqT K H p [kV kv.1, kv.2]) ps kvs ∧ ∀ p, H p = none → Q (.ref p) (upd H p (.dK (mergeK [] kvs)))) fDictP := fun η B S H ds vs w r => by
  unfold fDictP
  split
  · rename_i x
    obtain ⟨v, r2, rfl, rx, rfl⟩ := r
    split
    · rename_i l hx
      obtain ⟨l0, h1, h2⟩ := Option.bind_eq_some_iff.mp hx
      obtain ⟨a, xs, rfl, ha, ra⟩ := w.seeL rx h1
      obtain ⟨ps, ws, rfl, hp, ea⟩ := pairsD_rp (K := K) h2 ra
      have em : RpK η (cold B H) (mergeA [] l) (mergeK [] ws) := rpK_iff.mpr (EachA.merge (l := []) ea rfl)
      exact fun Q k => ⟨a, ps, ws, rfl, .inl (.inl ha), hp, fun p hn => k _ _ _ _ (w.alloc (u := .dic _) hn ⟨_, upd_same, ((w.hide hn).rpK em).up (up_snoc _ _)⟩) ⟨p, rfl, w.at_new⟩⟩
    · trivial
  · trivial
/-! ### sorted(d) -/
theorem leD_total : PySem.W.TotalLe (PySem.W.dataLe false enc) := PySem.W.sortLe_total (PyProof.Rows.listOrd PyProof.Rows.itemOrd) false fun b => PySem.W.keyToks (enc b)
theorem sort_one {ys ks : List D} (hp : ys.Perm ks) (hs : ys.Pairwise fun a b => PySem.W.dataLe false enc a b = true) (anti : ∀ a ∈ ks, ∀ b ∈ ks, PySem.W.dataLe false enc a b = true → PySem.W.dataLe false enc b a = true → a = b) : ys = sortD ks := by
  have p2 := List.pairwise_mergeSort (le := PySem.W.dataLe false enc) leD_total.trans (fun a b => by simpa using leD_total.total a b) ks
  have q2 := List.mergeSort_perm ks (PySem.W.dataLe false enc)
  exact List.Perm.eq_of_pairwise (fun a b ha hb h1 h2 => anti a (hp.mem_iff.mp ha) b (q2.mem_iff.mp hb) h1 h2) hs p2 (hp.trans q2.symm)
theorem leD_int (a b : Int) : PySem.W.dataLe false enc (.int a) (.int b) = decide (a ≤ b) := by
  show (!PySem.W.dataLt (.int b) (.int a)) = _
  rw [PySem.W.dataLt_int]
  by_cases h : a ≤ b
  · simp [h]
  · simp [h]; omega
theorem leD_str (a b : Str) : PySem.W.dataLe false enc (.str a) (.str b) = !decide (b.cps.toList < a.cps.toList) := by
  show (!PySem.W.dataLt (.str b) (.str a)) = _
  rw [PySem.W.dataLt_str]
theorem sort_ints {ys ks : List Int} (hp : ys.Perm ks) (hs : ys.Pairwise (· ≤ ·)) : ys.map D.int = sortD (ks.map D.int) := by
  refine sort_one (hp.map _) ?_ ?_
  · rw [List.pairwise_map]
    exact hs.imp fun h => by rw [leD_int]; exact decide_eq_true h
  · intro a ha b hb h1 h2
    obtain ⟨x, _, rfl⟩ := List.mem_map.mp ha
    obtain ⟨y, _, rfl⟩ := List.mem_map.mp hb
    rw [leD_int] at h1 h2
    simp at h1 h2
    rw [show x = y by omega]
theorem str_anti {x y : Str} (h1 : PySem.W.dataLe false enc (.str x) (.str y) = true) (h2 : PySem.W.dataLe false enc (.str y) (.str x) = true) : x = y := by
  rw [leD_str] at h1 h2
  simp at h1 h2
  have e := List.le_antisymm h1 h2
  obtain ⟨⟨xs⟩⟩ := x
  obtain ⟨⟨ys⟩⟩ := y
  simp at e
  rw [e]
theorem sorted_pw : ∀ {l : List Str}, sortedS l = true → l.Pairwise fun a b => PySem.W.dataLe false enc (.str a) (.str b) = true
  | [], _ => .nil
  | [a], _ => List.pairwise_singleton _ _
  | a :: b :: l, h => by
    have h' : (!ltCps b.cps.toList a.cps.toList && sortedS (b :: l)) = true := h
    simp only [Bool.and_eq_true, Bool.not_eq_true'] at h'
    have ih := sorted_pw h'.2
    have hab : PySem.W.dataLe false enc (.str a) (.str b) = true := by
      rw [leD_str, ← PyProof.Rows.ltCps_eq, h'.1]
      rfl
    refine List.pairwise_cons.mpr ⟨fun c hc => ?_, ih⟩
    rcases List.mem_cons.mp hc with rfl | hc
    · exact hab
    · exact leD_total.trans _ _ _ hab ((List.pairwise_cons.mp ih).1 c hc)
def intKs : List (Key × D) → Option (List Int)
  | [] => some []
  | (.inl k, _) :: r => (intKs r).map (k :: ·)
  | _ => none
theorem intKs_rp {η : List Addr} {H : Hp} : ∀ {l : List (Key × D)} {ws : List (Key × V)} {ks : List Int}, intKs l = some ks → RpK η H l ws → ws.map (·.1) = ks.map Sum.inl
  | [], ws, ks, h, r => by cases h; obtain rfl := r; rfl
  | (.inl k, d) :: l, ws, ks, h, r => by
    obtain ⟨ks', h1, rfl⟩ := Option.map_eq_some_iff.mp h
    obtain ⟨v, vs, rfl, _, t⟩ := r
    rw [List.map_cons, List.map_cons, intKs_rp h1 t]
  | (.inr k, d) :: l, ws, ks, h, r => by cases h
theorem intKs_kD : ∀ {l : List (Key × D)} {ks : List Int}, intKs l = some ks → l.map (fun kv => kD kv.1) = ks.map D.int
  | [], ks, h => by cases h; rfl
  | (.inl k, d) :: l, ks, h => by
    obtain ⟨ks', h1, rfl⟩ := Option.map_eq_some_iff.mp h
    rw [List.map_cons, List.map_cons, intKs_kD h1]
    rfl
  | (.inr k, d) :: l, ks, h => by cases h
theorem strKs_kD : ∀ {l : List (Key × D)} {ks : List Str}, strKs l = some ks → l.map (fun kv => kD kv.1) = ks.map D.str
  | [], ks, h => by cases h; rfl
  | (.inr k, d) :: l, ks, h => by
    obtain ⟨ks', h1, rfl⟩ := Option.map_eq_some_iff.mp h
    rw [List.map_cons, List.map_cons, strKs_kD h1]
    rfl
  | (.inl k, d) :: l, ks, h => by cases h
noncomputable def fSortDK (S : Sto) : List D → Option D
  | [x] => (vK S x).bind fun l => if l.length < 64 ∧ ((strKs l).isSome = true ∨ (intKs l).isSome = true) then some (.lst (sortD (l.map fun kv => kD kv.1))) else none
  | _ => none
def rSortDK : List V → Hp → VK → Prop := fun xs H Q => (∃ (a : Addr) (kvs : List (Key × V)) (ks : List Str), xs = [.ref a] ∧ Rd H a (.dK kvs) ∧ kvs.map (·.1) = ks.map Sum.inr ∧ ks.length < 64 ∧ ∀ ys p, ys.Perm ks → sortedS ys = true → H p = none → Q (.ref p) (upd H p (.lst (ys.map V.str)))) ∨
  (∃ (a : Addr) (kvs : List (Key × V)) (ks : List Int), xs = [.ref a] ∧ Rd H a (.dK kvs) ∧ kvs.map (·.1) = ks.map Sum.inl ∧ ks.length < 64 ∧ ∀ (ys : List Int) (p : Addr), ys.Perm ks → ys.Pairwise (· ≤ ·) → H p = none → Q (.ref p) (upd H p (.lst (ys.map V.int))))
theorem cr_sortDK {X : Cx} (hc : X.calm = true) : CallR X (.builtin "sorted") rSortDK := by
  intro pins s σ H xs us Q I r h
  rcases h with h | h
  · exact call_sortedD hc pins s σ H xs us Q I r h
  · exact call_sortedDI hc pins s σ H xs us Q I r h
theorem rp_ints {η : List Addr} {H : Hp} : ∀ ks : List Int, RpL η H (ks.map D.int) (ks.map V.int)
  | [] => rfl
  | k :: ks => ⟨.int k, ks.map V.int, rfl, rfl, rp_ints ks⟩
theorem v_sortDK : VN rSortDK fSortDK := fun E η B S H ds vs w r => by
  unfold fSortDK
  split
  · rename_i x
    obtain ⟨v, r2, rfl, rx, rfl⟩ := r
    cases hx : vK S x with
    | none => trivial
    | some l =>
    obtain ⟨a, ws, rfl, ha, ra⟩ := w.seeK rx hx
    simp only [Option.bind_some]
    split
    · rename_i c
      have hlw : ws.length = l.length := (rpK_iff.mp ra).length
      rcases c.2 with c2 | c2
      · obtain ⟨ks, hk⟩ := Option.isSome_iff_exists.mp c2
        have hl : ks.length = l.length := by have := congrArg List.length (strKs_kD hk); simpa using this.symm
        refine fun Q k => .inl ⟨a, ws, ks, rfl, ha, strKs_rp hk ra, by omega, fun ys p hp hs hn => k _ _ _ _ (w.new hn) ⟨p, ys.map V.str, rfl, w.cold_new hn, ?_⟩⟩
        rw [strKs_kD hk, ← sort_one (hp.map D.str) (by rw [List.pairwise_map]; exact sorted_pw hs) (fun a ha b hb h1 h2 => by
          obtain ⟨x, _, rfl⟩ := List.mem_map.mp ha
          obtain ⟨y, _, rfl⟩ := List.mem_map.mp hb
          rw [str_anti h1 h2])]
        exact rp_texts ys
      · obtain ⟨ks, hk⟩ := Option.isSome_iff_exists.mp c2
        have hl : ks.length = l.length := by have := congrArg List.length (intKs_kD hk); simpa using this.symm
        refine fun Q k => .inr ⟨a, ws, ks, rfl, ha, intKs_rp hk ra, by omega, fun ys p hp hs hn => k _ _ _ _ (w.new hn) ⟨p, ys.map V.int, rfl, w.cold_new hn, ?_⟩⟩
        rw [intKs_kD hk, ← sort_ints hp hs]
        exact rp_ints ys
    · trivial
  · trivial
/-! ### d != {} -/
def rNe0 : R2 := fun x y H Q => ∃ (a b : Addr) (ks : List (Key × V)), x = .ref a ∧ y = .ref b ∧ Rd H a (.dK ks) ∧ Rd H b (.dK []) ∧ Q (.bl (!ks.isEmpty)) H
theorem op_ne0 {X : Cx} (hu : X.A.units + 64 < cLine) : OpR X (compareOp .NotEq) rNe0 := by
  intro pins s σ H x y v u Q I rx ry h
  obtain ⟨a, b, ks, rfl, rfl, ea, eb, q⟩ := h
  obtain rfl : v = Value.ref a := rx
  obtain rfl : u = Value.ref b := ry
  obtain ⟨_, ya, va, ra, da⟩ := dk_rd I.hok ea
  obtain ⟨_, yb, vb, rb, db⟩ := dk_rd I.hok eb
  have hb : vb.length = 0 := rb.length.symm
  obtain rfl : vb = [] := List.length_eq_zero_iff.mp hb
  have hl : va.length = ks.length := ra.length.symm
  refine PySem.W.keq_ne (knd := mixKind X.prog X.w) (r := true) ya yb da db (by omega) (fun z => ?_) ⟨.bl (!ks.isEmpty), H, I, ?_, q⟩
  · obtain rfl : va = [] := List.length_eq_zero_iff.mp z
    exact .nil
  · have e : ks.isEmpty = (va.length == ([] : List (Key × Value)).length && true) := by
      rw [hl]
      cases ks <;> simp
    rw [e]
    rfl
def opNe0 (S : Sto) (x y : D) : Option D := (vK S x).bind fun l => match vK S y with
  | some [] => some (.bl (!l.isEmpty))
  | _ => none
theorem v_ne0 : V2 rNe0 opNe0 := fun E η B S H x y u v w rx ry => by
  unfold opNe0
  cases hx : vK S x with
  | none => trivial
  | some l =>
    simp only [Option.bind_some]
    split
    · rename_i hy
      obtain ⟨a, ws, rfl, ha, ra⟩ := w.seeK rx hx
      obtain ⟨b, zs, rfl, hb, rb⟩ := w.seeK ry hy
      obtain rfl := rb
      have e : l.isEmpty = ws.isEmpty := by
        have := (rpK_iff.mp ra).length
        cases l <;> cases ws <;> simp_all
      exact fun Q k => ⟨a, b, ws, rfl, rfl, ha, hb, k _ η B H w.refl (by rw [e]; rfl)⟩
    · trivial
/-! ### list(d.items()) -/
section
variable {X : Cx} {E : EK} {e : Expr} {te : TE} {F : Env → Sto → Res D} {pos p apos cpos : Pos}
def rItemsR : V → Hp → VK → Prop := fun x H Q => ∃ (d : Addr) (kvs : List (Key × V)), x = .ref d ∧ Rd H d (.dK kvs) ∧
  ∀ (H' : Hp) (a : Addr) (ts : List Addr), (∀ b o, H b = some o → H' b = some o) → H a = none → (∀ t ∈ ts, H t = none) → a ∉ ts → H' a = some (.lst (ts.map V.ref)) → Paired (fun (t : Addr) (q : Key × V) => H' t = some (.tup [kV q.1, q.2])) ts kvs → Q (.ref a) H'
def tItemsR (t : TE) : TE := fun σ H Q => t σ H fun x H1 => rItemsR x H1 Q
theorem pe_itemsR (calm : X.calm = true) (pe : PE X e te) (gl : Gl X "list") (nm : X.mg "list" = none) (hbase : attributeBase e "items" X.env (eval e X.env) = eval e X.env := by rfl) (hline : (apos.endLine == cpos.line) = true := by rfl)
    (hs : starEach [.Call (.Attribute e "items" apos) [] [] cpos] X.env = (false, eval (.Call (.Attribute e "items" apos) [] [] cpos) X.env) :: starEach [] X.env := by rfl) : PE X (.Call (.Name "list" p) [.Call (.Attribute e "items" apos) [] [] cpos] [] pos) (tItemsR te) := by
  refine ⟨fun pins s σ H Q I want => wpAny_Call_Name_kw (ld_blt I gl nm (show bootBuiltins "list" = some (.type "list") by decide +kernel) (PyProof.Rows.callWith_type1 ?_ hs rfl))⟩
  rw [hs]
  show wpAny _ _ (spliced ((false, eval (.Call (.Attribute e "items" apos) [] [] cpos) X.env) :: backTo pos (starEach [] X.env))) _ _ s
  refine Calls.spliced_cons (wpAny_Call_method (T := "dict") (id := "dict.items") hbase rfl hline F.plainAttrs_dict F.slot_dict_items F.type_dict_items (thn (pe.run pins s σ H _ I want) fun u s1 z => ?_))
  obtain ⟨x, H1, J, rx, d, kvs, rfl, hd, q⟩ := z
  obtain rfl : u = Value.ref d := rx
  obtain ⟨size, notSys, vs, rel, isD⟩ := dk_rd J.hok hd
  obtain ⟨ep, isAt⟩ := isD.dictAt
  have len : kvs.length = vs.length := Paired.length rel
  have J2 : Inv X pins σ H1 { s1 with heap := s1.heap.push { cls := .type "dict_items", data := .fields #[.ref d] } } := J.kept (t' := s1.toks) fun b ob y => Heap.get?_push_of_some _ y
  refine ⟨isD.typeIs, isD.mapOf.noDict, ?_⟩
  show wpAny _ _ (callWith cpos (.builtin "dict.items") [.ref d] [] []) _ X.xe s1
  refine method_meetsIn F.slot_dict_items F.entry_dict_items rfl (PySem.evalArgs_none ⟨rfl, isD.typeIs, F.args_dict_items_1 _, _, meets_dict_items (mixKind X.prog X.w) d notSys, ⟨vs, isD⟩, Calls.spliced_nil ?_⟩)
  refine PySem.W.kdx_call (knd := mixKind X.prog X.w) (kvs := vs) (ep := ep) (J.ok.hd calm) ⟨_, Heap.get?_push_size _ rfl, rfl, rfl⟩ (isAt.push _) (by omega) fun h' tk acc c as old hS hl hG hacc => ?_
  obtain ⟨H', y1, y2, y3, y4, y5, y6, J3⟩ := LiI.items_laid (tk := tk) J2 size rel old hS hl hG hacc
  exact ⟨.ref _, H', J3, rfl, q H' _ as y1 y2 y3 y4 y5 y6⟩
def itemsL (l : List (Key × D)) : List D := l.map fun kv => .tup [kD kv.1, kv.2]
@[simp] def fItemsL (F : Env → Sto → Res D) : Env → Sto → Res D := fun ρ S => (F ρ S).bind fun d S1 => lift ((vK S1 d).map fun l => .lst (itemsL l)) S1
theorem items_rp {η : List Addr} {Hc : Hp} : ∀ {l : List (Key × D)} {ws : List (Key × V)} {ts : List Addr}, RpK η Hc l ws → Paired (fun (t : Addr) (q : Key × V) => Hc t = some (.tup [kV q.1, q.2])) ts ws → RpL η Hc (itemsL l) (ts.map V.ref)
  | [], _, _, r, hp => by
    obtain rfl := r
    cases hp
    rfl
  | (k, d) :: l, _, _, ⟨v, vs, rfl, rv, rl⟩, hp => by
    cases hp with
    | cons h t => exact ⟨_, _, rfl, ⟨_, _, rfl, h, ⟨_, _, rfl, kD_rp _ _ k, _, _, rfl, rv, rfl⟩⟩, items_rp rl t⟩
theorem paired_in {α β : Type} {R R' : α → β → Prop} : ∀ {xs : List α} {ys : List β}, Paired R xs ys → (∀ x ∈ xs, ∀ y, R x y → R' x y) → Paired R' xs ys
  | _, _, .nil, _ => .nil
  | _, _, .cons h t, f => .cons (f _ List.mem_cons_self _ h) (paired_in t fun x hx y r => f x (List.mem_cons_of_mem _ hx) y r)
theorem de_itemsL (h : DE X E e te F) (nm : X.mg "list" = none) (calm : X.calm = true := by rfl) (gl : Gl X "list" := by rfl) (hbase : attributeBase e "items" X.env (eval e X.env) = eval e X.env := by rfl) (hline : (apos.endLine == cpos.line) = true := by rfl)
    (hs : starEach [.Call (.Attribute e "items" apos) [] [] cpos] X.env = (false, eval (.Call (.Attribute e "items" apos) [] [] cpos) X.env) :: starEach [] X.env := by rfl) : DE X E (.Call (.Name "list" p) [.Call (.Attribute e "items" apos) [] [] cpos] [] pos) (tItemsR te) (fItemsL F) := by
  refine ⟨pe_itemsR calm h.1 gl nm hbase hline hs, fun η B S σ ρ H w s => ?_⟩
  refine Ev.bind (T := te σ H) (T' := fun x H1 Q => rItemsR x H1 Q) (h.2 η B S σ ρ H w s) fun d S1 v η1 B1 H1 n1 r1 => ?_
  cases hd : vK S1 d with
  | none => trivial
  | some l =>
    obtain ⟨a, ws, rfl, ha, ra⟩ := n1.wd.seeK r1 hd
    intro Q k
    refine ⟨a, ws, rfl, ha, fun H' b ts old hb ht hn hl hp => ?_⟩
    have n2 := n1.wd.grow (H' := H') old
    have hp2 : Paired (fun (t : Addr) (q : Key × V) => cold B1 H' t = some (.tup [kV q.1, q.2])) ts ws := paired_in hp fun t hm q r => cold_in r (n1.wd.fresh (ht t hm))
    exact k _ _ _ _ n2 ⟨b, _, rfl, cold_in hl (n1.wd.fresh hb), items_rp (n2.rpK ra) hp2⟩
end
/-! ### an error with two fields -/
section
variable {P : Program} {w : World} {K : PySem.W.Frag} {mg : Str → Option Value} {base : Heap}
theorem init_x2 {C fI : Addr} {fd : FuncData} {qual f g : Str} {st : Stmt} {ms : Str} (F : Fun K "__init__" qual st fI fd) (Sc : FnScope [Str.ofString "self", f, g] [Str.ofString "self", f, g] (defScope st)) (oex : OexC K C) (hno : PySem.W.findIn K (.ref C) f = some none) (hno2 : PySem.W.findIn K (.ref C) g = some none)
    (hbody : ∀ cdv A outer s H E, PSs ((cxOf CX0 P w K mg base [Str.ofString "self", f, g] qual (defScope st) fI cdv A outer s H E).nox) (defBody st) (tSeq (tDrop (tVeI K (tCons (tVar 0) (tCons (tC (.str ms)) tNil)))) (tSeq (tOst K f (tVar 0) (tVar 1)) (tOst K g (tVar 0) (tVar 2))))) : FnOk P w K mg base CX0 1 fI fd [Str.ofString "self", f, g] (spInit C [f, g]) := by
  refine F.ok Sc (fun vs H Q E h => ?_) (fun cdv A outer s H vs Q E hr h => ?_)
  · obtain ⟨a, ys, rfl, hl, _⟩ := h
    rw [List.length_cons, hl]
    rfl
  · obtain ⟨a, ys, rfl, hl, ha, q⟩ := h
    match ys, hl with
    | [y, z], _ =>
      refine ⟨_, hbody cdv A outer s H E, ?_⟩
      refine ⟨_, rfl, a, C, [.str ms], rfl, by show 1 ≤ 1000; decide, oex, ha, ?_⟩
      refine ⟨y, rfl, _, rfl, a, C, rfl, oex, hno, .inl ⟨ha, fun dx hd hn => ?_⟩⟩
      have e : upd (upd (upd H dx (exd dx [(f, y)])) a (exo a C (some dx))) dx (exd dx [(g, z), (f, y)]) = upd (upd H dx (exd dx (fldV [f, g] [y, z]))) a (exo a C (some dx)) := by
        funext b
        by_cases hb : b = a
        · subst hb
          rw [upd_ne (Ne.symm hn), upd_same, upd_same]
        · by_cases hb2 : b = dx
          · subst hb2
            rw [upd_same, upd_ne hb, upd_same]
            rfl
          · rw [upd_ne hb2, upd_ne hb, upd_ne hb2, upd_ne hb, upd_ne hb2]
      refine ⟨z, rfl, _, rfl, a, C, rfl, oex, hno2, .inr ⟨dx, [(f, y)], upd_same, by rw [upd_ne hn, upd_same], by show 1 ≤ 900; decide, ?_⟩⟩
      rw [e]
      exact q dx hd hn
end
end DL
set_option Elab.async false
set_option linter.all false
set_option maxRecDepth 100000
set_option maxHeartbeats 4000000
set_option autoImplicit false
namespace DL
open PySem PySem.Spec PyProof.Rows L2
/-! ### what a suite makes new is frozen at its end -/
def sbE (g : Nat → Option D) (ρ : Env) : Env := ρ.map fun o => o.bind (sbD g)
def frzA (n : Nat) (S : Sto) : Nat → Option D := frzI true S n (S.length + 1)
def stlFl (n : Nat) : Flow → Flow
  | .nx ρ S => (match sbS (frzA n S) (S.take n) with
    | some S' => .nx (sbE (frzA n S) ρ) S'
    | none => .bad)
  | .ct ρ S => (match sbS (frzA n S) (S.take n) with
    | some S' => .ct (sbE (frzA n S) ρ) S'
    | none => .bad)
  | .bk ρ S => (match sbS (frzA n S) (S.take n) with
    | some S' => .bk (sbE (frzA n S) ρ) S'
    | none => .bad)
  | .rt d S => (match sbD (frzA n S) d, sbS (frzA n S) (S.take n) with
    | some d', some S' => .rt d' S'
    | _, _ => .bad)
  | .ex C fs ρ S => (match sbF (frzI false S n (S.length + 1)) fs, sbS (frzI false S n (S.length + 1)) (S.take n) with
    | some fs', some S' => .ex C fs' (sbE (frzI false S n (S.length + 1)) ρ) S'
    | _, _ => .bad)
  | .bad => .bad
theorem sl_sb {g : Nat → Option D} {η η' : List Addr} {H H' : Hp} {σ : L2.St} {ρ : Env} (le : Le H H') (hg : ∀ i d v, g i = some d → Rp η H (.hot i) v → Rp η' H' d v) (s : Sl η H σ ρ) : Sl η' H' σ (sbE g ρ) := by
  refine ⟨by unfold sbE; rw [List.length_map]; exact s.1, fun i d e => ?_⟩
  unfold sbE at e
  rw [List.getElem?_map] at e
  obtain ⟨o, ho, e⟩ := Option.map_eq_some_iff.mp e
  obtain ⟨d0, rfl, hd⟩ := Option.bind_eq_some_iff.mp e
  obtain ⟨v, e1, r⟩ := s.2 i d0 ho
  exact ⟨v, e1, sb_rp le hg d0 hd r⟩
def tLksS (t : TS) : TS := fun D σ H => t { nx := fun σ' H1 => Lk H1 (D.nx σ'), rt := fun v H1 => Lk H1 (D.rt v), bk := fun σ' H1 => Lk H1 (D.bk σ'), ct := fun σ' H1 => Lk H1 (D.ct σ') } σ H
theorem sp_lks {X : Cx} {pins : List (Addr × Obj)} {D : Ends} {f : PySem.Flow} {s : Shared} (h : SP X pins { nx := fun σ' H1 => Lk H1 (D.nx σ'), rt := fun v H1 => Lk H1 (D.rt v), bk := fun σ' H1 => Lk H1 (D.bk σ'), ct := fun σ' H1 => Lk H1 (D.ct σ') } f s) : SP X pins D f s := by
  cases f with
  | next => obtain ⟨σ, H, I, as, hn, hd, q⟩ := h; obtain ⟨H2, l, I2⟩ := Inv.lks I hn hd; exact ⟨σ, H2, I2, q H2 l⟩
  | brk => obtain ⟨σ, H, I, as, hn, hd, q⟩ := h; obtain ⟨H2, l, I2⟩ := Inv.lks I hn hd; exact ⟨σ, H2, I2, q H2 l⟩
  | cont => obtain ⟨σ, H, I, as, hn, hd, q⟩ := h; obtain ⟨H2, l, I2⟩ := Inv.lks I hn hd; exact ⟨σ, H2, I2, q H2 l⟩
  | ret u => obtain ⟨v, σ, H, I, r, as, hn, hd, q⟩ := h; obtain ⟨H2, l, I2⟩ := Inv.lks I hn hd; exact ⟨v, σ, H2, I2, r, q H2 l⟩
theorem pss_lks {X : Cx} {l : List Stmt} {t : TS} (h : PSs X l t) : PSs X l (tLksS t) :=
  ⟨fun pins s σ H D I hw => thn (h.run pins s σ H _ I hw) fun f s1 z => sp_lks z⟩
/-- locking what is new -/
theorem lk_new {η B η' B' : List Addr} {S S' S'' : Sto} {H H' : Hp} {P : Hp → Prop} (w : Wd η B S H) (n : Nx η B η' B' S' H H') (h2 : sbS (frzA S.length S') (S'.take S.length) = some S'')
    (k : ∀ H2, Nx η B η B S'' H H2 → Le (cold B' H') (cold B H2) → (∀ i d v, frzA S.length S' i = some d → Rp η' (cold B' H') (.hot i) v → Rp η (cold B H2) d v) → P H2) : Lk H' P := by
  refine ⟨newD S.length η' S', nodup_newD n.wd.nd, fun a ha => ?_, fun H2 lk => ?_⟩
  · obtain ⟨i, _, hi, hS⟩ := mem_newD ha
    rcases hS with ⟨l, hS⟩ | ⟨l, hS⟩
    · obtain ⟨ws, q, _⟩ := n.wd.hot i a _ hi hS
      exact ⟨_, q, trivial⟩
    · obtain ⟨ws, q, _⟩ := n.wd.hot i a _ hi hS
      exact ⟨_, q, trivial⟩
  · have lk' : Lkd (if true = true then newD S.length η' S' else []) H' H2 := lk
    have le : Le (cold B' H') (cold B H2) := fun b o e => by
      obtain ⟨e1, e2⟩ := cold_of e
      have hnb : b ∉ newD S.length η' S' := fun z => by
        obtain ⟨i, _, hi, _⟩ := mem_newD z
        exact e2 (n.wd.sub b (List.mem_of_getElem? hi))
      exact cold_in (by rw [lk.1 b hnb]; exact e1) fun z => e2 (n.sb b z)
    exact k H2 (stl_nx w n lk' h2) le (frz_rp w.live n w.len lk' _)
theorem sv_stl {η B : List Addr} {E : EK} {T : Ends → Prop} {S : Sto} {H : Hp} {fl : Flow} (w : Wd η B S H) (h : Sv η B E T H fl) :
    Sv η B E (fun D => T { nx := fun σ' H1 => Lk H1 (D.nx σ'), rt := fun v H1 => Lk H1 (D.rt v), bk := fun σ' H1 => Lk H1 (D.bk σ'), ct := fun σ' H1 => Lk H1 (D.ct σ') }) H (stlFl S.length fl) := by
  cases fl with
  | bad => trivial
  | nx ρ S' =>
    dsimp only [stlFl]
    split
    · rename_i S'' h2
      exact fun D k => h _ fun σ' η' B' H' n s => lk_new w n h2 fun H2 n2 le hg => k σ' η B H2 n2 (sl_sb le hg s)
    · trivial
  | ct ρ S' =>
    dsimp only [stlFl]
    split
    · rename_i S'' h2
      exact fun D k => h _ fun σ' η' B' H' n s => lk_new w n h2 fun H2 n2 le hg => k σ' η B H2 n2 (sl_sb le hg s)
    · trivial
  | bk ρ S' =>
    dsimp only [stlFl]
    split
    · rename_i S'' h2
      exact fun D k => h _ fun σ' η' B' H' n s => lk_new w n h2 fun H2 n2 le hg => k σ' η B H2 n2 (sl_sb le hg s)
    · trivial
  | rt d S' =>
    dsimp only [stlFl]
    split
    · rename_i d' S'' h1 h2
      exact fun D k => h _ fun v η' B' H' n r => lk_new w n h2 fun H2 n2 le hg => k v η B H2 n2 (sb_rp le hg d h1 r)
    · trivial
  | ex C fs ρ S' =>
    dsimp only [stlFl]
    split
    · rename_i fs' S'' h1 h2
      exact fun D k => h _ fun σ' dd ws η' B' H' n e1 e2 r s => k σ' dd ws η B H' (stl_nx w n (lk_none H') h2) e1 (cold_sub n.sb _ _ e2) (sb_rpF (stl_le n) (frz_rp w.live n w.len (lk_none H') _) fs h1 r) (sl_sb (stl_le n) (frz_rp w.live n w.len (lk_none H') _) s)
    · trivial
@[simp] def fStl (Φ : Env → Sto → Flow) : Env → Sto → Flow := fun ρ S => stlFl S.length (Φ ρ S)
theorem dss_stl {X : Cx} {E : EK} {l : List Stmt} {t : TS} {Φ : Env → Sto → Flow} (h : DSs X E l t Φ) : DSs X E l (tLksS t) (fStl Φ) := ⟨pss_lks h.1, fun η B S σ ρ H w s => sv_stl w (h.2 η B S σ ρ H w s)⟩
/-! ### freezing, computed: values without hot parts -/
def Clo (d : D) : Prop := ∀ g, sbD g d = some d
def CloK (l : List (Key × D)) : Prop := ∀ g, sbK g l = some l
def CloL (l : List D) : Prop := ∀ g, sbL g l = some l
@[simp] theorem clo_non : Clo .non := fun _ => rfl
@[simp] theorem clo_bl (b : Bool) : Clo (.bl b) := fun _ => rfl
@[simp] theorem clo_int (i : Int) : Clo (.int i) := fun _ => rfl
@[simp] theorem clo_str (s : Str) : Clo (.str s) := fun _ => rfl
theorem cloL_of : ∀ {l : List D}, (∀ d ∈ l, Clo d) → CloL l
  | [], _, g => rfl
  | d :: l, h, g => by
    show (sbD g d).bind (fun x => (sbL g l).map (x :: ·)) = _
    rw [h d List.mem_cons_self g, cloL_of (fun x hx => h x (List.mem_cons_of_mem _ hx)) g]
    rfl
theorem cloK_of : ∀ {l : List (Key × D)}, (∀ kv ∈ l, Clo kv.2) → CloK l
  | [], _, g => rfl
  | (k, d) :: l, h, g => by
    show (sbD g d).bind (fun x => (sbK g l).map ((k, x) :: ·)) = _
    rw [h (k, d) List.mem_cons_self g, cloK_of (fun x hx => h x (List.mem_cons_of_mem _ hx)) g]
    rfl
theorem clo_lst {l : List D} (h : ∀ d ∈ l, Clo d) : Clo (.lst l) := fun g => by show (sbL g l).map D.lst = _; rw [cloL_of h g]; rfl
theorem clo_tup {l : List D} (h : ∀ d ∈ l, Clo d) : Clo (.tup l) := fun g => by show (sbL g l).map D.tup = _; rw [cloL_of h g]; rfl
theorem clo_dic {l : List (Key × D)} (h : ∀ kv ∈ l, Clo kv.2) : Clo (.dic l) := fun g => by show (sbK g l).map D.dic = _; rw [cloK_of h g]; rfl
theorem frz_lt {S : Sto} {n i f : Nat} (h : i < n) : frzI true S n (f + 1) i = some (.hot i) := by unfold frzI; rw [if_pos h]
theorem frz_dic {S : Sto} {n i f : Nat} {l l' : List (Key × D)} (hn : n ≤ i) (h : S[i]? = some (.dic l)) (hl : sbK (frzI true S n f) l = some l') : frzI true S n (f + 1) i = some (.dic l') := by
  unfold frzI
  rw [if_neg (by omega), h]
  show (if true = true then _ else _) = _
  rw [if_pos rfl, hl]
  rfl
theorem frz_lst {S : Sto} {n i f : Nat} {l l' : List D} (hn : n ≤ i) (h : S[i]? = some (.lst l)) (hl : sbL (frzI true S n f) l = some l') : frzI true S n (f + 1) i = some (.lst l') := by
  unfold frzI
  rw [if_neg (by omega), h]
  show (sbL _ _).map _ = _
  rw [hl]
  rfl
theorem low_frz {S T : Sto} (hS : LowS S.length S) (f : Nat) : sbS (frzI true (S ++ T) S.length (f + 1)) ((S ++ T).take S.length) = some S := by
  rw [List.take_left]
  exact sb_monoS upTo_frz S hS
theorem stl_gen {S T : Sto} {d d' : D} (hS : LowS S.length S) (hd : sbD (frzA S.length (S ++ T)) d = some d') : stlD true S.length (.ok d (S ++ T)) = .ok d' S := by
  unfold frzA at hd
  unfold stlD
  dsimp only
  rw [hd, low_frz hS]
theorem stl_cl {S T : Sto} {d : D} (hS : LowS S.length S) (hd : Clo d) : stlD true S.length (.ok d (S ++ T)) = .ok d S := stl_gen hS (hd _)
/-- what stands below n in a store, more being behind: substituted by what is frozen -/
theorem stl_nx_gen {n : Nat} {S S' : Sto} {ρ : Env} (h : sbS (frzA n S) (S.take n) = some S') : stlFl n (.nx ρ S) = .nx (sbE (frzA n S) ρ) S' := by
  unfold stlFl
  dsimp only
  rw [h]
/-! ### s.count(t) -/
section
variable {X : Cx} {E : EK} {a b : Expr} {pos apos : Pos} {Fa Fb : Env → Sto → Res D} {ta tb : TE}
def opCount (_ : Sto) (a : Str) : D → Option D
  | .str b => some (.int (Txt.count a b))
  | _ => none
theorem de_count (ha : DE X E a ta Fa) (hb : DE X E b tb Fb) (hs : starEach [b] X.env = [(false, eval b X.env)] := by rfl) (hbase : attributeBase a "count" X.env (eval a X.env) = eval a X.env := by rfl) (hline : (apos.endLine == pos.line) = true := by rfl) :
    DE X E (.Call (.Attribute a "count" apos) [b] [] pos) (tM1 (fun x xs H Q => ∃ a b, x = V.str a ∧ xs = [V.str b] ∧ Q (.int (Txt.count a b)) H) ta tb) (mS1 opCount Fa Fb) := by
  refine ⟨pe_m1 PySem.F.slot_str_count PySem.F.type_str_count mt_count ha.1 hb.1 hs hbase hline, so_m1 (fun E η B S H z y v w r => ?_) ha.2 hb.2⟩
  unfold opCount
  split
  · rename_i b'
    obtain rfl := r
    exact fun Q k => ⟨_, b', rfl, rfl, k _ _ _ _ w.refl rfl⟩
  · trivial
end
/-! ### two suites, one behind the other -/
theorem execs_app (env : PySem.Env) (l2 : List Stmt) : ∀ l1 : List Stmt, execs (l1 ++ l2) env = ((execs l1 env) >>= fun f => match f with | .next => execs l2 env | f => pure f)
  | [] => rfl
  | st :: l1 => by
    rw [List.cons_append, execs_cons, execs_cons]
    show (exec st env).bind _ = ((exec st env).bind _).bind _
    rw [Sem.bind_assoc]
    congr 1
    funext f
    cases f with
    | next => exact execs_app env l2 l1
    | brk => rfl
    | cont => rfl
    | ret v => rfl
theorem pss_app {X : Cx} {l1 l2 : List Stmt} {t u : TS} (h1 : PSs X l1 t) (h2 : PSs X l2 u) : PSs X (l1 ++ l2) (tSeq t u) := by
  refine ⟨fun pins s σ H D I h => ?_⟩
  rw [execs_app]
  refine wpAny_bind (thn (h1.run pins s σ H { D with nx := u D } I h) fun f s1 q => ?_)
  cases f with
  | next =>
    obtain ⟨σ', H', I', q⟩ := q
    exact h2.run pins s1 σ' H' D I' q
  | ret v => exact wpAny_pure q
  | brk => exact wpAny_pure q
  | cont => exact wpAny_pure q
theorem dss_app {X : Cx} {E : EK} {l1 l2 : List Stmt} {t u : TS} {Φ Ψ : Env → Sto → Flow} (h1 : DSs X E l1 t Φ) (h2 : DSs X E l2 u Ψ) : DSs X E (l1 ++ l2) (tSeq t u) (fSeq Φ Ψ) := ⟨pss_app h1.1 h2.1, so_seq h1.2 h2.2⟩
/-- the first two statements, what they make new being frozen behind them -/
theorem dss_two {X : Cx} {E : EK} {s1 s2 : Stmt} {l2 : List Stmt} {t u : TS} {Φ Ψ : Env → Sto → Flow} (h1 : DSs X E [s1, s2] t Φ) (h2 : DSs X E l2 u Ψ) : DSs X E (s1 :: s2 :: l2) (tSeq (tLksS t) u) (fSeq (fStl Φ) Ψ) := dss_app (dss_stl h1) h2
end DL
set_option Elab.async false
set_option linter.all false
set_option maxRecDepth 100000
set_option maxHeartbeats 4000000
set_option autoImplicit false
namespace DL
open PySem PySem.Spec PyProof.Rows L2
/-! ### repr((text, own object)) -/
section
variable {P : Program} {w : World} {A : Around} {E : Value → Shared → Prop} {s : Shared}
theorem room_tup {k : Nat} (r : Room (k + 1) A) (args : Args) : Room k (A.under (.builtin "tuple.__repr__" args)) := by
  have hd : (A.under (.builtin "tuple.__repr__" args)).depth ≤ A.depth + 1 := by
    show A.depth + (Code.builtin "tuple.__repr__" args).weight ≤ A.depth + 1
    have : (Code.builtin "tuple.__repr__" args).weight ≤ 1 := by
      first
        | (show _ ≤ 1; decide +kernel)
        | simp [Code.weight, Code.isCreation, Code.isGuard, Code.isCaller, Code.frames, Code.isFrame, guardIds]
    omega
  have hu := units_under_tuple_repr A args
  have h1 := r.dp
  have h2 := r.un
  exact ⟨r.hd, by omega, by omega⟩
theorem frames_tup (args : Args) : (A.under (.builtin "tuple.__repr__" args)).frames = A.frames := by
  first
    | rfl
    | simp [Around.under, pushEnvs, Code.envs, Code.env?, Code.frames, Code.isFrame]
/-- an own object within a container that is shown -/
theorem under_own {K : PySem.W.Frag} {x C f : Addr} {ox : Obj} {od : Option Obj} {b : Nat} {Q : Str → Shared → Prop} (hb : b ≤ sizeLine) (hu : A.units < cLine) (X : K.In s.heap) (I : PySem.W.InstAt s.heap x ox C od) (hs : PySem.W.findIn K (.ref C) "__repr__" = some (some (.ref f))) (hf : PySem.W.isFn K (.ref f) = true)
    (h : wpAny (model P w) A (call (.ref f) [.ref x]) (fun v s' => ∃ z t, v = .str z t ∧ Q z s') E s) : wpAny (model P w) A (pyReprUnder b (.ref x)) Q E s := by
  refine wpAny_pyReprUnder_ref hb ?_
  unfold pyReprObjUnder pyReprObjBy
  refine wpAny_bind (wpAny_cRoomFor hu ?_)
  refine wpAny_bind (wpAny_bind (I.type.here ((PySem.W.looks_findIn X hs).here ?_)))
  show wpAny _ _ (if (some (Value.ref f)).isNone = true then _ else _) _ _ _
  rw [if_neg (by simp)]
  refine wpAny_bind (m := callSpecialIfBoundBy? _ (.ref x) (Str.ofString "__repr__")) ?_
  simp only [callSpecialIfBoundBy?, bindSpecialIfBound?]
  refine wpAny_holding (wpAny_bind (wpAny_bind (wpAny_bind (I.type.here ((PySem.W.looks_findIn X hs).here ?_)))))
  refine wpAny_bind (wpAny_askSetting (wpAny_ite ?_))
  have fin : wpAny (model P w) A ((match reprUnder? (Value.ref f), [Value.ref x] with | some twin, [self] => call twin [self, rawInt b] | _, _ => call (.ref f) ([.ref x] ++ [])) >>= fun v => pure (some v)) (fun r s' => wpAny (model P w) A (match r with
      | some r => (do if ← isInstance r (.type "str") then pure r else raiseError "TypeError" s!"__repr__ returned non-string (type {← typeNameOf r})")
      | none => unsupported "repr:special-get-raises") (fun v s' => ∃ x u, v = .str x u ∧ Q x s') E s') E s := by
    refine wpAny_bind (wpAny_mono h (fun v s' hv => wpAny_pure ?_) fun _ _ y => y)
    obtain ⟨z, t, rfl, q⟩ := hv
    refine wpAny_bind (wpAny_isInstance (T := "str") (b := true) rfl isSubtype_str_str ?_)
    exact wpAny_pure ⟨z, t, rfl, q⟩
  split
  · exact wpAny_bind ((PySem.W.bind_fn X _ (beq_iff_eq.mp hf)).here (wpAny_pure (by exact fin)))
  · exact wpAny_tryCatch (wpAny_bind ((PySem.W.bind_fn X _ (beq_iff_eq.mp hf)).here (wpAny_pure (by exact fin))))
end
def rOwnTup (K : PySem.W.Frag) (C : Addr) (sp : Sp) (E : XK) : List V → Hp → VK → Prop := fun xs H Q => ∃ (t a dx : Addr) (fs : List (Str × V)) (z : Str), xs = [V.ref t] ∧ SqT K H t [.str z, .ref a] ∧ H a = some (.ins C dx fs) ∧ (reprText z).length ≤ 1000000 ∧
  sp [.ref a] H (fun v H' => ∃ i, v = .str i ∧ i.length ≤ 1000000 ∧ Q (.str (tupleText [reprText z, i])) H') E
section
variable {X : Cx} {CX : CXT} {C g : Addr} {n k : Nat} {sp : Sp} {E0 : XK} {m : List D → Sto → Res D}
theorem cr_ownTup {σ : L2.St} {K : PySem.W.Frag} (hG : X.A.guards = some []) (hs : PySem.W.findIn X.K (.ref C) "__repr__" = some (some (.ref g))) (hf : PySem.W.isFn X.K (.ref g) = true) (F : FnR X.prog X.w X.K X.mg X.base CX k g sp) (hr : Room (k + 2) X.A) (hx : PassesAt CX X σ E0) (hK : X.K = K := by rfl) : CallAt X σ (.builtin "repr") (rOwnTup K C sp E0) := by
  subst hK
  intro pins s H xs us Q I r h
  obtain ⟨t, a, dx, fs, z, rfl, ht, ha, hz, q⟩ := h
  obtain ⟨u, rfl, ru⟩ := r.one
  cases (show u = Value.ref t from ru)
  obtain ⟨its, rits, hT, _⟩ := I.tuple ht
  obtain ⟨ot, hot, hoc, nt, hod⟩ := id hT
  obtain ⟨mA, O, _, _, _, _⟩ := ins_get I.hok ha
  obtain ⟨od, J, _⟩ := O.look
  have h1 : Room (k + 1) X.A.in1 := Room.in1 hr
  have h2 : Room k (X.A.in1.under (.builtin "tuple.__repr__" ⟨[.ref t], []⟩)) := room_tup h1 _
  have hu1 := hr.un
  have hu2 : (X.A.in1.under (.builtin "tuple.__repr__" ⟨[.ref t], []⟩)).units < cLine := by have := h2.un; omega
  have e1 : Env0 X.prog X.w X.K X.mg X.base (X.A.in1.under (.builtin "tuple.__repr__" ⟨[.ref t], []⟩)) X.stack s H := by
    have e0 := I.env0
    exact ⟨by rw [frames_tup]; exact e0.frames, e0.mod, e0.bs, e0.bsz, e0.funs, e0.frf, e0.hok, e0.bare⟩
  obtain ⟨v1, r1, rfl, rv1, r2⟩ : ∃ v1 r1, its = v1 :: r1 ∧ RelV (.str z) v1 ∧ Vals [V.ref a] r1 := by
    cases rits with
    | cons h t => exact ⟨_, _, rfl, h, t⟩
  obtain ⟨v2, rfl, rv2⟩ := r2.one
  obtain rfl : v2 = Value.ref a := rv2
  obtain ⟨tk, rfl⟩ := (show ∃ tk, v1 = Value.str z tk from rv1)
  have big : (10000000 : Nat) ≤ sizeLine := by decide
  refine call_repr_slot (idr := "tuple.__repr__") (by omega) hT.typeIs PySem.F.slot_tuple_repr ?_
  refine wpAny_call (codeAny_call_builtin_own (Code.quiet_builtin _ (by decide +kernel)) PySem.F.entry_tuple_repr (PySem.F.slot_tuple_repr.check _ _ _ _ _ _ _ _ hT.typeIs (PySem.F.args_tuple_repr_1 _) ?_))
  show wpOwn _ _ _ (Builtin.tupleReprAt 0 ⟨[.ref t], []⟩) _ _ s
  rw [tuple_repr_tree, tupleReprUnderWay_eq]
  refine wpOwn_bind (wpOwn_stackTailAny (g := []) hG (tupGuardF_off _) (tupGuardF_pos _) ?_)
  show wpOwn _ _ _ (tupleReprRest 0 (.ref t)) _ _ s
  refine wpOwn_of_wpAny ?_
  unfold tupleReprRest Builtin.Tuple.tupleItemsOf
  refine wpAny_bind (wpAny_bind (wpAny_seqItems hot hod (wpAny_pure ?_)))
  rw [← Array.forIn_toList, List.forIn_cons]
  refine wpAny_bind (wpAny_bind (wpAny_bind (ReprIs.str z tk (by omega) 1 (by omega) _ _ _ _ fun tk1 => wpAny_pure ?_)))
  show wpAny _ _ (forIn [Value.ref a] (_ : Array Str × Nat) tupBody) _ _ _
  rw [List.forIn_cons]
  have I1 : Inv X pins σ H { s with toks := tk1 } := I.tok _
  obtain ⟨mA1, O1, _, _, _, _⟩ := ins_get I1.hok ha
  obtain ⟨od1, J1, _⟩ := O1.look
  have e2 : Env0 X.prog X.w X.K X.mg X.base (X.A.in1.under (.builtin "tuple.__repr__" ⟨[.ref t], []⟩)) X.stack { s with toks := tk1 } H := by
    have e0 := I1.env0
    exact ⟨by rw [frames_tup]; exact e0.frames, e0.mod, e0.bs, e0.bsz, e0.funs, e0.frf, e0.hok, e0.bare⟩
  refine wpAny_bind (wpAny_bind (under_own (b := 0 + ((reprText z).length + 2) + 1) (by omega) hu2 I1.kIn J1 hs hf (wpAny_mono (wpAny_call (run_atS (us := [.ref a]) (ws := [.ref a]) F h2 e2 hx I1 (.cons rfl .nil) q)) (fun v s' hv => ?_) fun _ _ x => x)))
  obtain ⟨z', H', I', rz, i, rfl, hi, qz⟩ := hv
  obtain ⟨ti, rfl⟩ := (show ∃ t, v = Value.str i t from rz)
  refine ⟨i, ti, rfl, wpAny_pure ?_⟩
  show wpAny _ _ (forIn ([] : List Value) (_ : Array Str × Nat) tupBody) _ _ _
  rw [List.forIn_nil]
  refine wpAny_pure ?_
  have hl : (tupleText [reprText z, i]).length ≤ sizeLine := by
    have e : tupleText [reprText z, i] = Str.ofString "(" ++ (reprText z ++ Str.ofString ", " ++ i) ++ Str.ofString ")" := rfl
    have l1 : (Str.ofString "(").length = 1 := by decide +kernel
    have l2 : (Str.ofString ", ").length = 2 := by decide +kernel
    have l3 : (Str.ofString ")").length = 1 := by decide +kernel
    rw [e, strLen_append, strLen_append, strLen_append, strLen_append, l1, l2, l3]
    omega
  refine wpAny_bind (wpAny_mkStr (wpAny_pure ?_) hl)
  exact ⟨_, _, rfl, .str _, H', I'.tok _, ⟨_, rfl⟩, qz⟩
end
end DL
set_option Elab.async false
set_option linter.all false
set_option maxRecDepth 100000
set_option maxHeartbeats 4000000
set_option autoImplicit false
namespace DL
open PySem PySem.Spec PyProof.Rows L2
/-! ### repr((text, dict of Nones)) -/
def kPy : Key → PyData
  | .inl i => .int i
  | .inr x => .str x
def dtPy (z : Str) (ks : List Key) : PyData := .tuple [.str z, .dict (ks.map fun k => (kPy k, .none))]
def rDictTup (K : PySem.W.Frag) : List V → Hp → VK → Prop := fun xs H Q => ∃ (t a : Addr) (ks : List Key) (z : Str), xs = [V.ref t] ∧ SqT K H t [.str z, .ref a] ∧ Rd H a (.dK (ks.map fun k => (k, V.non))) ∧
  (dtPy z ks).showable = true ∧ (dtPy z ks).depth ≤ 60 ∧ (dtPy z ks).shown.length ≤ sizeLine ∧ Q (.str (dtPy z ks).shown) H
theorem reads_keys {P : Program} {w : World} {h : Heap} : ∀ {es : List DictEntry} {ks : List Key} {vs : List (Key × Value)}, KV (ks.map fun k => (k, V.non)) vs → Pairs (mixKind P w) es vs →
    ReadsAll h (es.map (·.key)) (ks.map kPy) [] ∧ ReadsAll h (es.map (·.val)) (ks.map fun _ => .none) []
  | es, [], vs, r, p => by
    unfold KV at r
    cases r
    cases p
    exact ⟨.nil, .nil⟩
  | es, k :: ks, vs, r, p => by
    unfold KV at r
    cases r with
    | cons hq t =>
      cases p with
      | @cons e kv es' kvs h1 h2 h3 =>
        obtain ⟨i1, i2⟩ := reads_keys (h := h) t h3
        refine ⟨?_, ?_⟩
        · refine ReadsAll.cons (as := []) (bs := []) ?_ i1
          have h1' : keyIs k e.key = true := by rw [← hq.1] at h1; exact h1
          rcases keyIs_shape h1' with ⟨i, t, e1, e2⟩ | ⟨x, t, e1, e2⟩
          · show Reads h e.key (kPy k) []
            rw [e1, e2]; exact .int _ _
          · show Reads h e.key (kPy k) []
            rw [e1, e2]; exact .str _ _
        · refine ReadsAll.cons (as := []) (bs := []) ?_ i2
          show Reads h e.val .none []
          rw [h2]
          have q := hq.2
          rename_i b _
          rw [show b.2 = Value.none from q]
          exact .none
theorem cr_dictTup {X : Cx} {K : PySem.W.Frag} (hG : X.A.guards = some []) (hu : X.A.units + 64 < cLine) (hK : X.K = K := by rfl) : CallR X (.builtin "repr") (rDictTup K) := by
  subst hK
  intro pins s σ H xs us Q I r h
  obtain ⟨t, a, ks, z, rfl, ht, hd, hs, hp, hz, q⟩ := h
  obtain ⟨u, rfl, ru⟩ := vals1 r
  cases (show u = Value.ref t from ru)
  obtain ⟨its, rits, hT, _⟩ := I.tuple ht
  obtain ⟨ot, hot, hoc, nt, hod⟩ := id hT
  obtain ⟨v1, r1, rfl, rv1, r2⟩ : ∃ v1 r1, its = v1 :: r1 ∧ RelV (.str z) v1 ∧ Vals [V.ref a] r1 := by
    cases rits with
    | cons h t => exact ⟨_, _, rfl, h, t⟩
  obtain ⟨v2, rfl, rv2⟩ := r2.one
  obtain rfl : v2 = Value.ref a := rv2
  obtain ⟨tk, rfl⟩ := (show ∃ tk, v1 = Value.str z tk from rv1)
  obtain ⟨_, ns, vs, rel, od, es, ep, g1, g2, g3, g4, g5, g6⟩ := dk_rd I.hok hd
  obtain ⟨k1, k2⟩ := reads_keys (h := s.heap) rel g5
  have rd : Reads s.heap (.ref a) (.dict (ks.map fun k => (kPy k, .none))) (a :: [] ++ []) := by
    refine Reads.dict g1 g2.1 g3 ?_ ?_
    · rw [List.map_map]; exact k1
    · rw [List.map_map]; exact k2
  have rt : Reads s.heap (.ref t) (dtPy z ks) ([] ++ ((a :: [] ++ []) ++ [])) := Reads.tuple hot hoc hod (.cons (.str _ _) (.cons rd .nil))
  refine repr_of_reads' rt hs (fun _ hm => ?_) hG (by omega) (fun _ _ z => z) (fun h' u tk hk => ⟨.str _, H, I.kept hk, ⟨_, rfl⟩, q⟩) hz
  have : sysModules = a := by simpa using hm
  rw [← this] at ns
  exact absurd ns (by simp)
/-! ### repr: data, a tuple of a text and a dict of Nones, a tuple of a text and an own object -/
def rReprX (K : PySem.W.Frag) (C : Addr) (sp : Sp) (E : XK) : List V → Hp → VK → Prop := fun xs H Q => rRepr K xs H Q ∨ rDictTup K xs H Q ∨ rOwnTup K C sp E xs H Q
def okDt (p : PyData) : Bool := p.showable && decide (p.depth ≤ 60) && decide (p.shown.length ≤ sizeLine)
def allNon : List (Key × D) → Bool
  | [] => true
  | (_, .non) :: r => allNon r
  | _ => false
def fDt (S : Sto) (z : Str) (kvs : List (Key × D)) : Res D := if allNon kvs = true ∧ okDt (dtPy z (kvs.map (·.1))) = true then .ok (.str (dtPy z (kvs.map (·.1))).shown) S else .bad
open Classical in
noncomputable def okOt (z : Str) : D → Sto → Res D := fun d S => match d with
  | .str i => if i.length ≤ 1000000 then .ok (.str (tupleText [reprText z, i])) S else .bad
  | _ => .bad
open Classical in
noncomputable def fOt (C : Addr) (m : List D → Sto → Res D) (S : Sto) (z : Str) (y : D) : Res D := match vO S y with
  | some (C', _) => if C' = C ∧ (reprText z).length ≤ 1000000 then (m [y] S).bind (okOt z) else .bad
  | none => .bad
noncomputable def fReprX (C : Addr) (m : List D → Sto → Res D) : Sto → List D → Res D := fun S ds => match fRepr S ds with
  | some d => .ok d S
  | none => match ds with
    | [.tup [.str z, .dic kvs]] => fDt S z kvs
    | [.tup [.str z, y]] => fOt C m S z y
    | _ => .bad
theorem rpk_non {η : List Addr} {H : Hp} : ∀ {l : List (Key × D)} {ws : List (Key × V)}, RpK η H l ws → allNon l = true → ws = (l.map (·.1)).map fun k => (k, V.non)
  | [], ws, r, _ => r
  | (k, d) :: l, ws, r, h => by
    obtain ⟨v, vs, rfl, rd, rl⟩ := r
    cases d <;> first | (cases h; done) | skip
    obtain rfl : v = .non := rd
    rw [rpk_non rl h]
    rfl
theorem vg_reprX {K : PySem.W.Frag} {C : Addr} {m : List D → Sto → Res D} {E0 : XK} : VG E0 (rReprX K C (spF 1 m) E0) (fReprX C m) := by
  intro η B S H ds vs w r
  unfold fReprX
  split
  · rename_i d hd
    have z := v_repr K E0 η B S H ds vs w r
    rw [hd] at z
    exact ev_imp (r := .ok d S) (fun Q h => .inl h) z
  · split
    · rename_i z kvs _
      unfold fDt
      split
      · rename_i hh
        obtain ⟨h1, h2⟩ := hh
        unfold okDt at h2
        simp only [Bool.and_eq_true, decide_eq_true_eq] at h2
        obtain ⟨⟨h2, h3⟩, h4⟩ := h2
        obtain ⟨v, vs', rfl, ⟨t, xs, rfl, ht, v1, r1, rfl, rv1, v2, r2, rfl, ⟨a, o, ws, rfl, ha, rk⟩, e2⟩, e0⟩ := r
        obtain rfl : vs' = [] := e0
        obtain rfl : r2 = [] := e2
        obtain rfl : v1 = .str z := rv1
        have e := rpk_non rk h1
        subst e
        exact fun Q k => .inr (.inl ⟨t, a, _, z, rfl, .inl (.inl (cold_of ht).1), .inr ⟨o, (cold_of ha).1⟩, h2, h3, h4, k _ _ _ _ w.refl rfl⟩)
      · trivial
    · rename_i z y _ _
      unfold fOt
      split
      · rename_i C' fs hy
        split
        · rename_i hCC
          obtain ⟨hC, hz⟩ := hCC
          subst hC
          obtain ⟨v, vs', rfl, ⟨t, xs, rfl, ht, v1, r1, rfl, rv1, v2, r2, rfl, ry, e2⟩, e0⟩ := r
          obtain rfl : vs' = [] := e0
          obtain rfl : r2 = [] := e2
          obtain rfl : v1 = .str z := rv1
          obtain ⟨a, dx, ws, rfl, ha, ra⟩ := w.seeO ry hy
          have q := ev_spF (n := 1) (m := m) (E := E0) (ds := [y]) (vs := [.ref a]) rfl w ⟨_, _, rfl, ry, rfl⟩
          cases e : m [y] S with
          | bad => trivial
          | exc C'' fs' S' =>
            rw [e] at q
            exact fun Q k => .inr (.inr ⟨t, a, dx, ws, z, rfl, .inl (.inl (cold_of ht).1), ha, hz, q _ k⟩)
          | ok d S' =>
            rw [e] at q
            show EvD η B E0 _ H (okOt z d S')
            unfold okOt
            split
            · rename_i i
              split
              · rename_i hi
                exact fun Q k => .inr (.inr ⟨t, a, dx, ws, z, rfl, .inl (.inl (cold_of ht).1), ha, hz, q _ fun v' η' B' H' n' r' => ⟨i, r', hi, k _ η' B' H' n' rfl⟩⟩)
              · trivial
            · trivial
        · trivial
      · trivial
    · trivial
section
variable {X : Cx} {CX : CXT} {C g : Addr} {n k : Nat} {sp : Sp} {E0 : XK}
theorem cr_reprX {σ : L2.St} {K : PySem.W.Frag} (hG : X.A.guards = some []) (hu : X.A.units + 64 < cLine) (hs : PySem.W.findIn X.K (.ref C) "__repr__" = some (some (.ref g))) (hf : PySem.W.isFn X.K (.ref g) = true) (F : FnR X.prog X.w X.K X.mg X.base CX k g sp) (hr : Room (k + 2) X.A) (hx : PassesAt CX X σ E0) (hK : X.K = K := by rfl) : CallAt X σ (.builtin "repr") (rReprX K C sp E0) := by
  intro pins s H xs us Q I r h
  rcases h with h | h | h
  · exact cr_repr hG hu hK pins s σ H xs us Q I r h
  · exact cr_dictTup hG hu hK pins s σ H xs us Q I r h
  · exact cr_ownTup hG hs hf F hr hx hK pins s H xs us Q I r h
end
end DL
namespace DL
open PySem PySem.Spec PyProof.Rows L2
/-! ### text * int -/
def rMulS : V → V → Hp → VK → Prop := fun x y H Q => ∃ (z : Str) (i : Int), x = .str z ∧ y = .int i ∧ z.length ≤ 8 ∧ 0 ≤ i ∧ i ≤ 1000 ∧ Q (.str (Txt.mul z i)) H
theorem op_mulS {X : Cx} : OpR X (binaryOp .Mult) rMulS := by
  intro pins s σ H x y v u Q I rx ry h
  obtain ⟨z, i, rfl, rfl, h1, h2, h3, q⟩ := h
  obtain ⟨t, rfl⟩ := rx
  obtain ⟨t', rfl⟩ := ry
  exact SB.mul (mulOk_of 8 1000 h1 h3 (by omega) (by decide) (by decide)) fun t' k => ⟨.str _, H, I.tok _, ⟨_, rfl⟩, q⟩
def opMulS (S : Sto) (x y : D) : Option D := match x, y with
  | .str z, .int i => if z.length ≤ 8 ∧ 0 ≤ i ∧ i ≤ 1000 then some (.str (Txt.mul z i)) else none
  | _, _ => none
theorem v_mulS : V2 rMulS opMulS := fun E η B S H x y u v w rx ry => by
  unfold opMulS
  split
  · obtain rfl := rx; obtain rfl := ry
    split
    · rename_i h
      exact fun Q k => ⟨_, _, rfl, rfl, h.1, h.2.1, h.2.2, k _ _ _ H w.refl rfl⟩
    · trivial
  · trivial
/-! ### list * int, longer -/
def opRepL (S : Sto) (x y : D) : Option D := match y with
  | .int k => (vL S x).bind fun l => if l.length ≤ 8 ∧ 0 ≤ k ∧ k ≤ 1000 then some (.lst (List.replicate k.toNat l).flatten) else none
  | _ => none
theorem v_repL : V2 rRep opRepL := fun E η B S H x y u v w rx ry => by
  unfold opRepL
  split
  · rename_i k
    obtain rfl := ry
    cases hx : vL S x with
    | none => trivial
    | some l =>
      obtain ⟨a, xs, rfl, ha, ra⟩ := w.seeL rx hx
      simp only [Option.bind_some]
      split
      · rename_i c
        obtain ⟨c1, c2, c3⟩ := c
        have hl : xs.length * k.toNat ≤ 8 * 1000 := Nat.mul_le_mul (by rw [ra.length]; exact c1) (by omega)
        refine fun Q kk => ⟨a, k, xs, rfl, rfl, ha, Int.le_trans (by decide) c2, Int.lt_of_le_of_lt c3 (by decide), Nat.le_trans hl (by decide), fun p hp => kk _ _ _ _ (w.new hp) ⟨p, _, rfl, w.cold_new hp, (w.new hp).rpL (ra.rep _)⟩⟩
      · trivial
  · trivial
/-! ### a, b, c = a list of three -/
@[simp] def gfThree (i j k : Nat) : D → Env → Option Env := fun d ρ => match d with
  | .lst [a, b, c] => some (((ρ.set i (some a)).set j (some b)).set k (some c))
  | _ => none
theorem sog_three (K : PySem.W.Frag) (i j k : Nat) : SoG (gUnl K 3 (gCons (gName i) (gCons (gName j) (gCons (gName k) gNil)))) [i, j, k] (gfThree i j k) := fun η B S H d v σ ρ ρ' w s r e Q q => by
  unfold gfThree at e
  split at e
  · rename_i a b c
    cases e
    obtain ⟨p, xs, rfl, hp, va, r1, rfl, ra, vb, r2, rfl, rb, vc, r3, rfl, rc, rfl⟩ := r
    refine ⟨p, _, rfl, .inl (.inl (cold_of hp).1), rfl, va, _, rfl, vb, _, rfl, vc, _, rfl, rfl, q _ (((s.set ra).set rb).set rc) fun vs h => ?_⟩
    rw [wipe_in (h k (by simp)), wipe_in (h j (by simp)), wipe_in (h i (by simp))]
  · cases e
/-! ### s.upper() -/
section
variable {X : Cx} {E : EK} {a : Expr} {pos apos : Pos} {Fa : Env → Sto → Res D} {ta : TE}
@[simp] def upF (Fa : Env → Sto → Res D) : Env → Sto → Res D := fun ρ S => (Fa ρ S).bind fun x S1 => match x with
  | .str z => if z.length ≤ 1000 then .ok (.str (Txt.upper z)) S1 else .bad
  | _ => .bad
theorem de_upper (ha : DE X E a ta Fa) (hbase : attributeBase a "upper" X.env (eval a X.env) = eval a X.env := by rfl) (hline : (apos.endLine == pos.line) = true := by rfl) :
    DE X E (.Call (.Attribute a "upper" apos) [] [] pos) (tM0 (fun x xs H Q => ∃ a, x = V.str a ∧ xs = [] ∧ a.length ≤ 5592405 ∧ Q (V.str (Txt.upper a)) H) ta) (upF Fa) := by
  refine ⟨pe_upper ha.1 hbase hline, fun η B S σ ρ H w s => ?_⟩
  refine Ev.bind (T := ta σ H) (T' := fun x H1 Q => (∃ a, x = V.str a) ∧ ∃ a, x = V.str a ∧ ([] : List V) = [] ∧ a.length ≤ 5592405 ∧ Q (V.str (Txt.upper a)) H1) (ha.2 η B S σ ρ H w s) fun x S1 u η1 B1 H1 n1 r1 => ?_
  cases x <;> first | trivial | skip
  rename_i z
  obtain rfl := r1
  dsimp only
  split
  · rename_i hz
    exact fun Q k => ⟨⟨_, rfl⟩, z, rfl, rfl, by omega, k _ _ _ _ n1.wd.refl rfl⟩
  · trivial
end
end DL
set_option Elab.async false
set_option linter.all false
set_option maxRecDepth 100000
set_option maxHeartbeats 4000000
set_option autoImplicit false
namespace DL
open PySem PySem.Spec PyProof.Rows L2
/-! ### names and paths, plainly -/
abbrev alpha : Str := "abcdefghijklmnopqrstuvwxyz"
abbrev slash : Str := "/"
def isNm (s : Str) : Bool := decide (1 ≤ s.length ∧ s.length ≤ 8) && s.cps.toList.all fun c => decide (c ∈ alpha.cps.toList)
def parts (s : Str) : List Str := Txt.split s slash
def namesL (s : Str) : List Str := if s = "" then [] else parts s
def isPt (s : Str) : Bool := decide (s = "") || (parts s).all isNm
theorem cutL_map {α β : Type} (f : α → β) (l : List α) (lo hi : Option Int) : cutL (l.map f) lo hi = (cutL l lo hi).map f := by
  unfold cutL
  rw [List.length_map, ← List.map_drop, ← List.map_take]
theorem cutL_sub {α : Type} {l : List α} {lo hi : Option Int} {x : α} (h : x ∈ cutL l lo hi) : x ∈ l := List.mem_of_mem_drop (List.mem_of_mem_take h)
@[simp] theorem slash_len : (Str.ofString "/").length = 1 := by decide +kernel
theorem parts_count (s : Str) : (parts s).length ≤ s.length + 1 := by
  have := split_weight s slash (by decide +kernel)
  unfold parts
  omega
theorem small_parts {s p : Str} (h : p ∈ parts s) : p.length ≤ s.length := part_short h
theorem namesL_weight (s : Str) : ((namesL s).map (·.length)).sum + (namesL s).length ≤ s.length + 1 := by
  unfold namesL
  split
  · simp
  · exact split_weight s slash (by decide +kernel)
theorem namesL_count (s : Str) : (namesL s).length ≤ s.length + 1 := by
  have := namesL_weight s
  omega
theorem sum_cut (l : List Nat) (lo hi : Option Int) : (cutL l lo hi).sum ≤ l.sum := by
  unfold cutL
  generalize HT.sIx l.length 0 lo = a
  generalize HT.sIx l.length l.length hi - a = b
  have h1 : ∀ (m : List Nat) (n : Nat), (m.take n).sum ≤ m.sum := by
    intro m
    induction m with
    | nil => intro n; simp
    | cons x m ih =>
      intro n
      cases n with
      | zero => simp
      | succ n => have := ih n; simp; omega
  have h2 : ∀ (m : List Nat) (n : Nat), (m.drop n).sum ≤ m.sum := by
    intro m
    induction m with
    | nil => intro n; simp
    | cons x m ih =>
      intro n
      cases n with
      | zero => simp
      | succ n => have := ih n; simp; omega
  exact Nat.le_trans (h1 _ _) (h2 _ _)
theorem cutL_len {α : Type} (l : List α) (lo hi : Option Int) : (cutL l lo hi).length ≤ l.length := by
  unfold cutL
  simp
  omega
theorem join_cut_ok (s : Str) (hz : s.length ≤ 50000) (lo hi : Option Int) : joinOk slash (cutL (namesL s) lo hi) = true := by
  unfold joinOk
  have h1 := namesL_weight s
  have h2 := cutL_len (namesL s) lo hi
  have h3 := sum_cut ((namesL s).map (·.length)) lo hi
  rw [cutL_map] at h3
  rw [show slash.length = 1 from slash_len]
  exact decide_eq_true (by omega)
def parentL (s : Str) : Str := Txt.join slash (cutL (namesL s) none (some (-1)))
def keyL (s : Str) : D := .tup [.int (namesL s).length, .tup ((namesL s).map .str)]
/-- the proper beginnings of a path -/
def begins (s : Str) : List Str := (List.range ((namesL s).length - 1)).map fun (k : Nat) => Txt.join slash (cutL (namesL s) none (some ((k : Int) + 1)))
/-! ### path order -/
def pkD : D → D
  | .str s => keyL s
  | d => d
def keyP (s : Str) : PyData := .tuple [.int (namesL s).length, .tuple ((namesL s).map .str)]
def leP (a b : Str) : Bool := PySem.W.dataLe false keyP a b
theorem toPys_strs : ∀ l : List Str, toPys (l.map .str) = some (l.map .str)
  | [] => rfl
  | x :: l => by
    show ((toPy (.str x)).bind fun p => (toPys (l.map .str)).map (p :: ·)) = _
    rw [toPys_strs l]
    rfl
theorem enc_key (s : Str) : toPy (pkD (.str s)) = some (keyP s) := by
  simp [pkD, keyL, toPy, toPys, toPys_strs, keyP]
theorem alike_strs : ∀ l m : List Str, PySem.W.alikeAll (l.map PyData.str) (m.map PyData.str) = true
  | [], _ => by simp [PySem.W.alikeAll]
  | _ :: _, [] => by simp [PySem.W.alikeAll]
  | x :: l, y :: m => by simp [PySem.W.alikeAll, PySem.W.alike, alike_strs l m]
theorem alike_key (s t : Str) : PySem.W.alike (keyP s) (keyP t) = true := by
  simp [keyP, PySem.W.alike, PySem.W.alikeAll, alike_strs]
theorem depth_strs : ∀ l : List Str, PyData.depthAll (l.map PyData.str) = 0
  | [] => rfl
  | x :: l => by simp [PyData.depthAll, PyData.depth, depth_strs l]
theorem key_ok (ps : List Str) (h : ps.length ≤ 1000) : encOk ((ps.map D.str).map pkD) := by
  have em : ∀ d ∈ (ps.map D.str).map pkD, ∃ s, d = pkD (.str s) := fun d hd => by
    obtain ⟨x, hx, rfl⟩ := List.mem_map.mp hd
    obtain ⟨s, _, rfl⟩ := List.mem_map.mp hx
    exact ⟨s, rfl⟩
  have en : ∀ s, enc (pkD (.str s)) = keyP s := fun s => by unfold enc; rw [enc_key]; rfl
  refine ⟨fun d hd => ?_, fun d hd e he => ?_, .inl fun d hd => ?_, fun d hd => ?_, by simp; omega⟩
  · obtain ⟨s, rfl⟩ := em d hd
    rw [enc_key]; rfl
  · obtain ⟨x, hx, rfl⟩ := List.mem_map.mp hd
    obtain ⟨s, rfl⟩ := em x hx
    obtain ⟨y, hy, rfl⟩ := List.mem_map.mp he
    obtain ⟨t, rfl⟩ := em y hy
    rw [en, en]
    exact alike_key s t
  · obtain ⟨x, hx, rfl⟩ := List.mem_map.mp hd
    obtain ⟨s, rfl⟩ := em x hx
    rw [en]
    exact ⟨_, _, rfl⟩
  · obtain ⟨s, rfl⟩ := em d hd
    rw [en]
    simp [keyP, PyData.depth, PyData.depthAll, depth_strs]
def sortP (ps : List Str) : List Str := ps.mergeSort leP
@[simp] theorem empty_app (p : Str) : Str.empty ++ p = p := by
  obtain ⟨a⟩ := p
  show (⟨#[] ++ a⟩ : Str) = ⟨a⟩
  simp
theorem app_len (x y : Str) : (x ++ y).length = x.length + y.length := by
  show (x.cps ++ y.cps).size = _
  simp [Str.length]
/-- one row of a package's text -/
def rowS (p : Str) : D → Str
  | .int i => p ++ " file " ++ toString i
  | .str z => p ++ " to " ++ (if z = "" then Str.ofString "." else z)
  | _ => p ++ " folder"
def okItem : D → Bool
  | .int i => decide (i.natAbs ≤ 999999999999)
  | .str z => isPt z && decide ((namesL z).length ≤ 8)
  | .non => true
  | _ => false
def isEP (z : Str) : Bool := isPt z && decide (1 ≤ (namesL z).length ∧ (namesL z).length ≤ 10)
theorem int_small {i : Int} (h : i.natAbs ≤ 999999999999) : i.natAbs.log2 < 1920 := by
  have : i.natAbs.log2 < 40 := by
    by_cases h0 : i.natAbs = 0
    · rw [h0]; decide
    · exact (Nat.log2_lt h0).mpr (by omega)
  omega
theorem int_len {i : Int} (h : i.natAbs ≤ 999999999999) : (Str.ofString i.repr).length ≤ 20 := by
  by_cases h0 : 0 ≤ i
  · have := toString_length_le h0 (k := 12) (by decide) (by omega)
    exact Nat.le_trans this (by decide)
  · have e : i.repr = "-" ++ toString (0 - i) := toString_neg (by omega)
    have := toString_length_le (v := 0 - i) (by omega) (k := 12) (by decide) (by omega)
    rw [e, PyProof.Rows.ofString_length]
    rw [PyProof.Rows.ofString_length] at this
    rw [String.toList_append, List.length_append]
    have e2 : "-".toList.length = 1 := by decide
    omega
/-! ### the entries of a package -/
def kv (es : List (Str × D)) : List (Key × D) := es.map fun e => (.inr e.1, e.2)
@[simp] theorem kv_keys (es : List (Str × D)) : (kv es).map (fun e => kD e.1) = es.map fun e => .str e.1 := by
  unfold kv
  rw [List.map_map]
  rfl
@[simp] theorem kv_items (es : List (Str × D)) : (kv es).map (fun e => D.tup [kD e.1, e.2]) = es.map fun e => .tup [.str e.1, e.2] := by
  unfold kv
  rw [List.map_map]
  rfl
@[simp] theorem kv_len (es : List (Str × D)) : (kv es).length = es.length := List.length_map _
structure Fit (e : Str × D) : Prop where
  key : e.1.length ≤ 1000
  item : okItem e.2 = true
  len : ∀ z, e.2 = .str z → z.length ≤ 1000
def showE (es : List (Str × D)) : Str := Txt.join "\n" (es.map fun e => rowS e.1 e.2)
def rowD : D → D
  | .tup [.str p, d] => .str (rowS p d)
  | _ => .non
@[simp] theorem rowD_comp : (rowD ∘ fun e : Str × D => D.tup [.str e.1, e.2]) = D.str ∘ fun e => rowS e.1 e.2 := rfl
theorem bools_comp {α : Type} (f : α → Bool) : ∀ l : List α, bools (l.map (D.bl ∘ f)) = some (l.map f)
  | [] => rfl
  | x :: l => by
    show (bools (l.map (D.bl ∘ f))).map (f x :: ·) = _
    rw [bools_comp f l]
    rfl
theorem rowS_len {e : Str × D} (h : Fit e) : (rowS e.1 e.2).length ≤ 2100 := by
  obtain ⟨p, d⟩ := e
  have hk := h.key
  have hi := h.item
  have hl := h.len
  dsimp only at hk hi hl ⊢
  have lf : (Str.ofString " folder").length = 7 := by decide +kernel
  have lt : (Str.ofString " to ").length = 4 := by decide +kernel
  have ll : (Str.ofString " file ").length = 6 := by decide +kernel
  have ld : (Str.ofString ".").length = 1 := by decide +kernel
  cases d <;> first | (cases hi; done) | skip
  · show (p ++ Str.ofString " folder").length ≤ _
    rw [app_len, lf]
    omega
  · rename_i i
    have hs : (Str.ofString i.repr).length ≤ 20 := int_len (by simpa [okItem] using hi)
    show (p ++ Str.ofString " file " ++ Str.ofString i.repr).length ≤ _
    rw [app_len, app_len, ll]
    omega
  · rename_i z
    have := hl z rfl
    show (p ++ Str.ofString " to " ++ (if z = "" then Str.ofString "." else z)).length ≤ _
    rw [app_len, app_len, lt]
    split
    · rw [ld]; omega
    · omega
theorem sum_le {α : Type} (f : α → Nat) (b : Nat) : ∀ (l : List α), (∀ x ∈ l, f x ≤ b) → (l.map f).sum ≤ l.length * b
  | [], _ => by simp
  | x :: l, h => by
    have h1 := h x List.mem_cons_self
    have h2 := sum_le f b l fun y hy => h y (List.mem_cons_of_mem _ hy)
    rw [List.map_cons, List.sum_cons, List.length_cons, Nat.succ_mul]
    omega
theorem show_ok {es : List (Str × D)} (hn : es.length ≤ 200) (h : ∀ e ∈ es, Fit e) : joinOk "\n" (es.map fun e => rowS e.1 e.2) = true := by
  unfold joinOk
  have h1 := sum_le (fun e : Str × D => (rowS e.1 e.2).length) 2100 es fun e he => rowS_len (h e he)
  have hl : (Str.ofString "\n").length = 1 := by decide +kernel
  refine decide_eq_true ?_
  rw [List.map_map, List.length_map, hl]
  have e : ((fun x : Str => x.length) ∘ fun e : Str × D => rowS e.1 e.2) = fun e => (rowS e.1 e.2).length := rfl
  rw [e]
  omega
@[simp] theorem strsOf_comp {α : Type} (f : α → Str) (l : List α) : strsOf (l.map (D.str ∘ f)) = some (l.map f) := by
  rw [← List.map_map]
  exact strsOf_map _
def leS (a b : Str) : Bool := PySem.W.dataLe false PyData.str a b
def sortS (ks : List Str) : List Str := ks.mergeSort leS
theorem encOk_strs (ks : List Str) (h : ks.length ≤ 1000) : encOk (ks.map D.str) := by
  have en : ∀ s : Str, enc (.str s) = .str s := fun s => rfl
  refine ⟨fun d hd => ?_, fun d hd e he => ?_, .inr ?_, fun d hd => ?_, by simp; omega⟩
  · obtain ⟨s, _, rfl⟩ := List.mem_map.mp hd
    rfl
  · obtain ⟨x, hx, rfl⟩ := List.mem_map.mp hd
    obtain ⟨s, _, rfl⟩ := List.mem_map.mp hx
    obtain ⟨y, hy, rfl⟩ := List.mem_map.mp he
    obtain ⟨t, _, rfl⟩ := List.mem_map.mp hy
    rw [en, en]
    rfl
  · intro d hd
    obtain ⟨x, hx, rfl⟩ := List.mem_map.mp hd
    obtain ⟨s, _, rfl⟩ := List.mem_map.mp hx
    exact ⟨fun z => (nomatch z), fun xs z => (nomatch z)⟩
  · obtain ⟨s, _, rfl⟩ := List.mem_map.mp hd
    rw [en]
    exact Nat.zero_le _
theorem sortD_strs (ks : List Str) : sortD (ks.map D.str) = (sortS ks).map D.str := by
  unfold sortD sortS
  rw [List.map_mergeSort]
  intro a ha b hb
  rfl
def getE (es : List (Str × D)) (p : Str) : Option D := getA (kv es) (.inr p)
/-- the entry that is found wrong first -/
def badE (es : List (Str × D)) : Option Str :=
  match (sortS (es.map (·.1))).find? fun p => !isEP p with
  | some p => some p
  | none => (sortP (es.map (·.1))).find? fun p => !okItem ((getE es p).getD .non) || !((begins p).all fun q => isNoneD ((getE es q).getD .non))
theorem look_kv (es : List (Str × D)) (S : Sto) (p : Str) : lookD S (.dic (kv es)) (.str p) = some (getE es p) := rfl
theorem isDc_dic (S : Sto) (l : List (Key × D)) : isDc' S (.dic l) = true := rfl
theorem getE_mem : ∀ {es : List (Str × D)} {p : Str}, p ∈ es.map (·.1) → ∃ e ∈ es, e.1 = p ∧ getE es p = some e.2
  | [], p, h => nomatch h
  | e :: es, p, h => by
    by_cases hp : e.1 = p
    · refine ⟨e, List.mem_cons_self, hp, ?_⟩
      unfold getE getA kv
      rw [List.map_cons, List.find?_cons]
      simp [hp]
    · have h' : p ∈ es.map (·.1) := by
        rcases List.mem_cons.mp h with q | q
        · exact absurd q.symm hp
        · exact q
      obtain ⟨x, hx, h1, h2⟩ := getE_mem h'
      refine ⟨x, List.mem_cons_of_mem _ hx, h1, ?_⟩
      have : getE (e :: es) p = getE es p := by
        unfold getE getA kv
        rw [List.map_cons, List.find?_cons]
        simp [hp]
      rw [this]
      exact h2
def noneD (es : List (Str × D)) : D → D
  | .str q => .bl (isNoneD ((getE es q).getD .non))
  | _ => .non
theorem begins_len {p q : Str} (h : q ∈ begins p) : (begins p).length ≤ p.length := by
  have := namesL_count p
  unfold begins
  simp
  omega
def pathsE (es : List (Str × D)) : List Str := (es.map (·.1)).flatMap fun p => begins p ++ [p]
def putE (l : List (Str × D)) (p : Str) (d : D) : List (Str × D) := if (l.any fun e => decide (e.1 = p)) = true then l.map (fun e => if e.1 = p then (e.1, d) else e) else l ++ [(p, d)]
/-- the entries with their parents, in order -/
def compE (es : List (Str × D)) : List (Str × D) := (sortP (pathsE es)).foldl (fun l p => putE l p ((getE es p).getD .non)) []
theorem kv_put (l : List (Str × D)) (p : Str) (d : D) : putA (kv l) (.inr p) d = kv (putE l p d) := by
  unfold putA putE kv
  rw [List.any_map]
  have e : ((fun x : Key × D => decide (x.1 = Sum.inr p)) ∘ fun e : Str × D => ((Sum.inr e.1 : Key), e.2)) = fun e => decide (e.1 = p) := by
    funext e
    simp
  rw [e]
  split
  · rw [List.map_map, List.map_map]
    congr 1
    funext e
    simp only [Function.comp]
    by_cases h : e.1 = p <;> simp [h]
  · simp
theorem kv_fold (f : Str → D) : ∀ (ps : List Str) (l : List (Str × D)), ps.foldl (fun acc p => putA acc (.inr p) (f p)) (kv l) = kv (ps.foldl (fun l p => putE l p (f p)) l)
  | [], l => rfl
  | p :: ps, l => by
    rw [List.foldl_cons, List.foldl_cons, kv_put]
    exact kv_fold f ps _
end DL
set_option Elab.async false
set_option linter.all false
set_option maxRecDepth 100000
set_option maxHeartbeats 4000000
set_option autoImplicit false
namespace DL
open PySem PySem.Spec PyProof.Rows L2
/-! ### paths made of names -/
theorem nm_len {w : Str} (h : isNm w = true) : 1 ≤ w.length ∧ w.length ≤ 8 := by
  unfold isNm at h
  simp only [Bool.and_eq_true, decide_eq_true_eq] at h
  exact h.1
theorem nm_sign {w : Str} (h : isNm w = true) {c : Nat} (hc : c ∈ w.cps.toList) : 97 ≤ c ∧ c ≤ 122 := by
  unfold isNm at h
  simp only [Bool.and_eq_true, List.all_eq_true, decide_eq_true_eq] at h
  have q := h.2 c hc
  have : ∀ c ∈ alpha.cps.toList, 97 ≤ c ∧ c ≤ 122 := by decide +kernel
  exact this c q
def tame (s : Str) : Prop := s.length ≤ 1000 ∧ ∀ c ∈ s.cps.toList, c < 16 ^ 8
theorem nm_tame {w : Str} (h : isNm w = true) : tame w := ⟨by have := nm_len h; omega, fun c hc => by have := nm_sign h hc; omega⟩
theorem joinL_len {a : List Nat} : ∀ {l : List (List Nat)} {n : Nat}, (∀ x ∈ l, x.length ≤ n) → (TL.joinL a l).length ≤ l.length * (n + a.length)
  | [], n, _ => by simp [TL.joinL]
  | [x], n, h => by have := h x (by simp); simp [TL.joinL]; omega
  | x :: y :: r, n, h => by
    have h1 := h x (by simp)
    have ih := joinL_len (a := a) (l := y :: r) (n := n) fun z hz => h z (by simp only [List.mem_cons] at hz ⊢; exact .inr hz)
    show (x ++ (a ++ TL.joinL a (y :: r))).length ≤ _
    rw [List.length_append, List.length_append]
    have e : (x :: y :: r).length * (n + a.length) = (n + a.length) + (y :: r).length * (n + a.length) := by
      rw [List.length_cons, Nat.succ_mul, Nat.add_comm]
    rw [e]
    omega
theorem joinL_mem {a : List Nat} {c : Nat} : ∀ {l : List (List Nat)}, c ∈ TL.joinL a l → c ∈ a ∨ ∃ x ∈ l, c ∈ x
  | [], h => by simp [TL.joinL] at h
  | [x], h => .inr ⟨x, by simp, by simpa [TL.joinL] using h⟩
  | x :: y :: r, h => by
    have h' : c ∈ x ++ (a ++ TL.joinL a (y :: r)) := h
    rcases List.mem_append.mp h' with q | q
    · exact .inr ⟨x, by simp, q⟩
    · rcases List.mem_append.mp q with q | q
      · exact .inl q
      · rcases joinL_mem q with q | ⟨z, hz, q⟩
        · exact .inl q
        · exact .inr ⟨z, List.mem_cons_of_mem _ hz, q⟩
theorem join_tl (ns : List Str) : TL.tl (Txt.join slash ns) = TL.joinL (TL.tl slash) (ns.map TL.tl) := by rw [TL.join_eq, TL.tl_join]
theorem tl_len (s : Str) : (TL.tl s).length = s.length := by
  show s.cps.toList.length = s.cps.size
  simp
theorem join_len {ns : List Str} (h : ∀ w ∈ ns, isNm w = true) : (Txt.join slash ns).length ≤ ns.length * 9 := by
  have z := joinL_len (a := TL.tl slash) (l := ns.map TL.tl) (n := 8) fun x hx => by
    obtain ⟨w, hw, rfl⟩ := List.mem_map.mp hx
    rw [tl_len]
    exact (nm_len (h w hw)).2
  rw [← join_tl, tl_len, List.length_map] at z
  exact z
theorem join_tame {ns : List Str} (h : ∀ w ∈ ns, isNm w = true) (hl : ns.length ≤ 100) : tame (Txt.join slash ns) := by
  refine ⟨by have := join_len h; omega, fun c hc => ?_⟩
  have hc' : c ∈ TL.tl (Txt.join slash ns) := hc
  rw [join_tl] at hc'
  rcases joinL_mem hc' with q | ⟨x, hx, q⟩
  · have : ∀ c ∈ TL.tl slash, c < 16 ^ 8 := by decide +kernel
    exact this c q
  · obtain ⟨w, hw, rfl⟩ := List.mem_map.mp hx
    have := nm_sign (h w hw) q
    omega
theorem parts_join {ns : List Str} (h : ∀ w ∈ ns, isNm w = true) (hne : ns ≠ []) : parts (Txt.join slash ns) = ns := by
  unfold parts
  refine TL.split_join (y := slash) (s := 47) (S := []) (by decide +kernel) (by decide +kernel) hne fun p hp hc => ?_
  have := nm_sign (h p hp) hc
  omega
theorem join_empty {ns : List Str} (h : ∀ w ∈ ns, isNm w = true) (e : Txt.join slash ns = "") : ns = [] := by
  cases hn : ns with
  | nil => rfl
  | cons w r =>
    exfalso
    have hp := parts_join h (by rw [hn]; simp)
    rw [e] at hp
    have : parts "" = [("" : Str)] := by decide +kernel
    rw [this] at hp
    have := nm_len (h "" (by rw [← hp]; simp))
    have e0 : ("" : Str).length = 0 := by decide +kernel
    omega
theorem names_join {ns : List Str} (h : ∀ w ∈ ns, isNm w = true) : namesL (Txt.join slash ns) = ns := by
  unfold namesL
  by_cases hn : ns = []
  · subst hn; decide +kernel
  · rw [if_neg fun e => hn (join_empty h e)]
    exact parts_join h hn
theorem isPt_join {ns : List Str} (h : ∀ w ∈ ns, isNm w = true) : isPt (Txt.join slash ns) = true := by
  unfold isPt
  by_cases hn : ns = []
  · subst hn; decide +kernel
  · rw [parts_join h hn]
    simp only [Bool.or_eq_true]
    exact .inr (List.all_eq_true.mpr h)
theorem spl_ne (s : Nat) : ∀ (l acc : List Nat), TL.spl [s] 0 acc l ≠ []
  | [], acc => by rw [TL.spl_nil]; simp
  | c :: r, acc => by
    by_cases h : TL.pre [s] (c :: r) = true
    · rw [TL.spl_hit h]; simp
    · rw [TL.spl_miss (by simpa using h)]
      exact spl_ne s r _
theorem join_spl (s : Nat) : ∀ (l acc : List Nat), TL.joinL [s] (TL.spl [s] 0 acc l) = acc ++ l
  | [], acc => by rw [TL.spl_nil]; simp [TL.joinL]
  | c :: r, acc => by
    by_cases h : TL.pre [s] (c :: r) = true
    · rw [TL.spl_hit h]
      have e : c = s := by
        simp [TL.pre] at h
        exact h
      have ih := join_spl s r []
      show TL.joinL [s] (acc :: TL.spl [s] 0 [] r) = _
      cases hq : TL.spl [s] 0 [] r with
      | nil => exact absurd hq (spl_ne s r [])
      | cons x t =>
        show acc ++ ([s] ++ TL.joinL [s] (x :: t)) = _
        rw [← hq, ih, e]
        simp
    · rw [TL.spl_miss (by simpa using h), join_spl s r]
      simp
theorem join_parts (p : Str) : Txt.join slash (parts p) = p := by
  have e : TL.tl (Txt.join slash (parts p)) = TL.tl p := by
    rw [join_tl]
    unfold parts
    rw [TL.split_spl p slash (by decide +kernel) (TL.kind_ok (by decide +kernel))]
    have e2 : TL.tl slash = [47] := by decide +kernel
    rw [e2, join_spl]
    rfl
  exact TL.ext_tl e
theorem join_names (p : Str) : Txt.join slash (namesL p) = p := by
  unfold namesL
  split
  · rename_i h
    subst h
    decide +kernel
  · exact join_parts p
theorem names_ok {p : Str} (h : isPt p = true) : ∀ w ∈ namesL p, isNm w = true := by
  unfold namesL
  split
  · simp
  · rename_i h0
    unfold isPt at h
    simp only [Bool.or_eq_true, decide_eq_true_eq, List.all_eq_true] at h
    rcases h with h | h
    · exact absurd h h0
    · exact h
theorem pt_len {p : Str} (h : isPt p = true) : p.length ≤ (namesL p).length * 9 := by
  have := join_len (names_ok h)
  rwa [join_names] at this
theorem cutL_to {α : Type} (l : List α) (k : Nat) : cutL l none (some (k : Int)) = l.take k := by
  unfold cutL
  rw [HT.sIx_none, HT.sIx_nat, List.drop_zero]
  rcases Nat.le_total k l.length with h | h
  · rw [Nat.min_eq_left h]
    rfl
  · rw [Nat.min_eq_right h, List.take_of_length_le h]
    simp
theorem begins_eq (p : Str) : begins p = (List.range ((namesL p).length - 1)).map fun k => Txt.join slash ((namesL p).take (k + 1)) := by
  unfold begins
  refine List.map_congr_left fun k _ => ?_
  have := cutL_to (namesL p) (k + 1)
  rw [← this]
  rfl
theorem take_ok {p : Str} (h : isPt p = true) (k : Nat) : ∀ w ∈ (namesL p).take k, isNm w = true := fun w hw => names_ok h w (List.mem_of_mem_take hw)
theorem names_take {p : Str} (h : isPt p = true) (k : Nat) : namesL (Txt.join slash ((namesL p).take k)) = (namesL p).take k := names_join (take_ok h k)
theorem begins_pt {p q : Str} (h : isPt p = true) (hq : q ∈ begins p) : isPt q = true ∧ 1 ≤ (namesL q).length ∧ (namesL q).length < (namesL p).length ∧ namesL q = (namesL p).take (namesL q).length := by
  rw [begins_eq] at hq
  obtain ⟨k, hk, rfl⟩ := List.mem_map.mp hq
  have hk' := List.mem_range.mp hk
  rw [names_take h]
  have hl : ((namesL p).take (k + 1)).length = k + 1 := by rw [List.length_take]; omega
  exact ⟨isPt_join (take_ok h _), by omega, by omega, by rw [hl]⟩
theorem cutL_init {α : Type} (l : List α) : cutL l none (some (-1)) = l.take (l.length - 1) := by
  unfold cutL
  rw [HT.sIx_none, List.drop_zero, Nat.sub_zero]
  have e : HT.sIx l.length l.length (some (-1)) = l.length - 1 := by
    show (if (-1 : Int) < 0 then ((-1 : Int) + (l.length : Int)).toNat else min (-1 : Int).toNat l.length) = l.length - 1
    rw [if_pos (by decide)]
    omega
  rw [e]
theorem parent_eq (p : Str) : parentL p = Txt.join slash ((namesL p).take ((namesL p).length - 1)) := by
  unfold parentL
  rw [cutL_init]
/-- shorter paths come first -/
theorem ltP_ne {p q : Str} (h : (namesL p).length ≠ (namesL q).length) : PySem.W.dataLt (keyP p) (keyP q) = decide ((namesL p).length < (namesL q).length) := by
  unfold keyP
  rw [PySem.W.dataLt_pair (by simp [PySem.W.alike]) (by simp [PySem.W.alike, alike_strs]), PySem.W.dataLt_int]
  have h' : ((namesL p).length : Int) ≠ (namesL q).length := fun z => h (Int.ofNat_inj.mp z)
  have e1 : PyData.eqv (.int (namesL p).length) (.int (namesL q).length) = false := by
    rw [PyData.eqv]
    simp [h']
  rw [e1, if_neg Bool.false_ne_true]
  simp
theorem leP_total : PySem.W.TotalLe leP := PySem.W.sortLe_total (PyProof.Rows.listOrd PyProof.Rows.itemOrd) false fun b => PySem.W.keyToks (keyP b)
theorem leP_lt (a b : Str) : leP a b = !PySem.W.dataLt (keyP b) (keyP a) := rfl
theorem leP_len {a b : Str} (h : leP a b = true) : (namesL a).length ≤ (namesL b).length := by
  rw [leP_lt] at h
  by_cases hl : (namesL a).length ≤ (namesL b).length
  · exact hl
  · rw [ltP_ne (by omega)] at h
    simp at h
    omega
theorem sortP_sorted (l : List Str) : (sortP l).Pairwise fun a b => leP a b = true := List.pairwise_mergeSort (le := leP) leP_total.trans (fun a b => by simpa using leP_total.total a b) l
theorem sortP_perm (l : List Str) : (sortP l).Perm l := List.mergeSort_perm l leP
/-- each text once, where it is met first -/
def addL (ks : List Str) (p : Str) : List Str := if p ∈ ks then ks else ks ++ [p]
def onceL (ps : List Str) : List Str := ps.foldl addL []
theorem put_once (f : Str → D) (ks : List Str) (p : Str) : putE (ks.map fun q => (q, f q)) p (f p) = (addL ks p).map fun q => (q, f q) := by
  unfold putE addL
  have e : ((ks.map fun q => (q, f q)).any fun e => decide (e.1 = p)) = decide (p ∈ ks) := by
    rw [List.any_map]
    induction ks with
    | nil => simp
    | cons a ks ih =>
      rw [List.any_cons, ih]
      by_cases h : a = p
      · simp [h]
      · simp [h, Ne.symm h]
  rw [e]
  by_cases h : p ∈ ks
  · rw [if_pos (by simpa using h), if_pos h, List.map_map]
    refine List.map_congr_left fun q _ => ?_
    simp only [Function.comp]
    by_cases hq : q = p
    · rw [if_pos hq, hq]
    · rw [if_neg hq]
  · rw [if_neg (by simpa using h), if_neg h]
    simp
theorem fold_once (f : Str → D) : ∀ (ps ks : List Str), ps.foldl (fun l p => putE l p (f p)) (ks.map fun q => (q, f q)) = (ps.foldl addL ks).map fun q => (q, f q)
  | [], ks => rfl
  | p :: ps, ks => by
    rw [List.foldl_cons, List.foldl_cons, put_once]
    exact fold_once f ps _
theorem compE_eq (es : List (Str × D)) : compE es = (onceL (sortP (pathsE es))).map fun q => (q, (getE es q).getD .non) := fold_once (fun q => (getE es q).getD .non) _ []
theorem mem_addL {ks : List Str} {p q : Str} : q ∈ addL ks p ↔ q ∈ ks ∨ q = p := by
  unfold addL
  split
  · rename_i h
    exact ⟨.inl, fun z => z.elim id fun e => e ▸ h⟩
  · simp
theorem mem_fold {q : Str} : ∀ (ps ks : List Str), q ∈ ps.foldl addL ks ↔ q ∈ ks ∨ q ∈ ps
  | [], ks => by simp
  | p :: ps, ks => by
    rw [List.foldl_cons, mem_fold ps, mem_addL, List.mem_cons, or_assoc]
theorem mem_once {ps : List Str} {q : Str} : q ∈ onceL ps ↔ q ∈ ps := by
  unfold onceL
  rw [mem_fold]
  simp
theorem nodup_fold : ∀ (ps ks : List Str), ks.Nodup → (ps.foldl addL ks).Nodup
  | [], ks, h => h
  | p :: ps, ks, h => by
    rw [List.foldl_cons]
    refine nodup_fold ps _ ?_
    unfold addL
    split
    · exact h
    · rename_i hp
      exact List.nodup_append.mpr ⟨h, by simp, fun a ha b hb => by rw [List.mem_singleton.mp hb]; exact fun e => hp (e ▸ ha)⟩
theorem nodup_once (ps : List Str) : (onceL ps).Nodup := nodup_fold ps [] (by simp)
/-- what is kept stands in the old order -/
theorem once_sorted {R : Str → Str → Prop} : ∀ (ps ks : List Str), ks.Pairwise R → (∀ k ∈ ks, ∀ p ∈ ps, R k p) → ps.Pairwise R → (ps.foldl addL ks).Pairwise R
  | [], ks, h, _, _ => h
  | p :: ps, ks, h, hk, hp => by
    rw [List.foldl_cons]
    obtain ⟨h1, h2⟩ := List.pairwise_cons.mp hp
    refine once_sorted ps _ ?_ (fun k hk' q hq => ?_) h2
    · unfold addL
      split
      · exact h
      · exact List.pairwise_append.mpr ⟨h, by simp, fun a ha b hb => by rw [List.mem_singleton.mp hb]; exact hk a ha p List.mem_cons_self⟩
    · rcases mem_addL.mp hk' with z | z
      · exact hk k z q (List.mem_cons_of_mem _ hq)
      · rw [z]; exact h1 q hq
theorem comp_sorted (es : List (Str × D)) : (onceL (sortP (pathsE es))).Pairwise fun a b => leP a b = true := once_sorted _ [] (by simp) (fun _ h => nomatch h) (sortP_sorted _)
/-- every path that stands in a package: its beginnings stand there too, before it -/
theorem mem_paths {es : List (Str × D)} {q : Str} : q ∈ onceL (sortP (pathsE es)) ↔ ∃ e ∈ es, q ∈ begins e.1 ∨ q = e.1 := by
  rw [mem_once, (sortP_perm _).mem_iff]
  unfold pathsE
  simp only [List.mem_flatMap, List.mem_map, List.mem_append, List.mem_singleton]
  constructor
  · rintro ⟨p, ⟨e, he, rfl⟩, h⟩
    exact ⟨e, he, h⟩
  · rintro ⟨e, he, h⟩
    exact ⟨e.1, ⟨e, he, rfl⟩, h⟩
theorem mem_begins {p q : Str} : q ∈ begins p ↔ ∃ k, 1 ≤ k ∧ k < (namesL p).length ∧ q = Txt.join slash ((namesL p).take k) := by
  rw [begins_eq]
  constructor
  · intro h
    obtain ⟨k, hk, rfl⟩ := List.mem_map.mp h
    have := List.mem_range.mp hk
    exact ⟨k + 1, by omega, by omega, rfl⟩
  · rintro ⟨k, h1, h2, rfl⟩
    refine List.mem_map.mpr ⟨k - 1, List.mem_range.mpr (by omega), ?_⟩
    rw [show k - 1 + 1 = k by omega]
theorem parent_mem {p : Str} (h2 : 2 ≤ (namesL p).length) : parentL p ∈ begins p := mem_begins.mpr ⟨(namesL p).length - 1, by omega, by omega, parent_eq p⟩
theorem parent_one {p : Str} (h : (namesL p).length ≤ 1) : parentL p = "" := by
  rw [parent_eq, show (namesL p).length - 1 = 0 by omega, List.take_zero]
  decide +kernel
theorem begins_trans {p q r : Str} (h : isPt p = true) (hq : q ∈ begins p) (hr : r ∈ begins q) : r ∈ begins p := by
  obtain ⟨k, k1, k2, rfl⟩ := mem_begins.mp hq
  obtain ⟨j, j1, j2, rfl⟩ := mem_begins.mp hr
  rw [names_take h] at j2 ⊢
  rw [List.length_take] at j2
  refine mem_begins.mpr ⟨j, j1, by omega, ?_⟩
  rw [List.take_take, Nat.min_eq_left (by omega)]
theorem tl_app (x y : Str) : TL.tl (x ++ y) = TL.tl x ++ TL.tl y := by
  show (x.cps ++ y.cps).toList = _
  simp [TL.tl]
end DL
set_option Elab.async false
set_option linter.all false
set_option maxRecDepth 100000
set_option maxHeartbeats 4000000
set_option autoImplicit false
namespace DL
open PySem PySem.Spec PyProof.Rows L2
/-! ### what Package.__init__ lays, entry by entry -/
def lastN (p : Str) : Str := (namesL p).getLastD ""
def kidsP (L : List (Str × D)) (f : Str) : List D := (L.filter fun e => decide (parentL e.1 = f)).map fun e => .str (lastN e.1)
def foldsP (L : List (Str × D)) : List Str := (L.filter fun e => isNoneD e.2).map (·.1)
def kindS : D → Str
  | .non => "folder"
  | .str _ => "reference"
  | _ => "file"
def sortsP (L : List (Str × D)) (k : Str) : List D := (L.filter fun e => decide (kindS e.2 = k)).map fun e => .str e.1
/-- the folders and where their lists stand -/
def idxK (n : Nat) : List Str → Nat → List (Key × D)
  | [], _ => []
  | f :: fs, j => (.inr f, .hot (n + 7 + j)) :: idxK n fs (j + 1)
def partsK (n : Nat) (fs : List Str) : List (Key × D) := (.inr "", .hot (n + 1)) :: idxK n fs 0
def sortsK (n : Nat) : List (Key × D) := [(.inr "file", .hot (n + 3)), (.inr "folder", .hot (n + 4)), (.inr "reference", .hot (n + 5))]
def stP (n : Nat) (L : List (Str × D)) : List HotO :=
  [.lst (kidsP L ""), .dic (partsK n (foldsP L)), .lst (sortsP L "file"), .lst (sortsP L "folder"), .lst (sortsP L "reference"), .dic (sortsK n)] ++ (foldsP L).map fun f => .lst (kidsP L f)
theorem idxK_get {n : Nat} : ∀ {fs : List Str} {j : Nat} {f : Str}, f ∈ fs → ∃ i, fs[i]? = some f ∧ getA (idxK n fs j) (.inr f) = some (.hot (n + 7 + (j + i)))
  | [], j, f, h => nomatch h
  | g :: fs, j, f, h => by
    by_cases hg : g = f
    · subst hg
      exact ⟨0, rfl, by simp [idxK, getA]⟩
    · have hf : f ∈ fs := by
        rcases List.mem_cons.mp h with z | z
        · exact absurd z.symm hg
        · exact z
      obtain ⟨i, h1, h2⟩ := idxK_get (n := n) (j := j + 1) hf
      refine ⟨i + 1, h1, ?_⟩
      unfold idxK getA
      rw [List.find?_cons]
      have : decide (((Sum.inr g : Key)) = Sum.inr f) = false := by simpa using hg
      rw [this]
      have h3 : getA (idxK n fs (j + 1)) (.inr f) = some (.hot (n + 7 + (j + 1 + i))) := h2
      unfold getA at h3
      rw [h3]
      congr 2
      omega
theorem idxK_snoc (n : Nat) : ∀ (fs : List Str) (j : Nat) (f : Str), idxK n (fs ++ [f]) j = idxK n fs j ++ [(.inr f, .hot (n + 7 + (j + fs.length)))]
  | [], j, f => rfl
  | g :: fs, j, f => by
    show (_ :: idxK n (fs ++ [f]) (j + 1)) = _
    rw [idxK_snoc n fs (j + 1) f]
    show _ = _ :: (idxK n fs (j + 1) ++ _)
    rw [List.length_cons, show j + 1 + fs.length = j + (fs.length + 1) by omega]
theorem kids_snoc (L : List (Str × D)) (e : Str × D) (f : Str) : kidsP (L ++ [e]) f = kidsP L f ++ if parentL e.1 = f then [.str (lastN e.1)] else [] := by
  unfold kidsP
  rw [List.filter_append, List.map_append]
  by_cases h : parentL e.1 = f
  · simp [h]
  · simp [h]
theorem sorts_snoc (L : List (Str × D)) (e : Str × D) (k : Str) : sortsP (L ++ [e]) k = sortsP L k ++ if kindS e.2 = k then [.str e.1] else [] := by
  unfold sortsP
  rw [List.filter_append, List.map_append]
  by_cases h : kindS e.2 = k
  · simp [h]
  · simp [h]
theorem folds_snoc (L : List (Str × D)) (e : Str × D) : foldsP (L ++ [e]) = foldsP L ++ if isNoneD e.2 = true then [e.1] else [] := by
  unfold foldsP
  rw [List.filter_append, List.map_append]
  by_cases h : isNoneD e.2 = true
  · rw [List.filter_cons, if_pos h, if_pos h]
    rfl
  · rw [List.filter_cons, if_neg h, if_neg h]
    rfl
theorem at_store (S : Sto) (o : HotO) (T : List HotO) (k : Nat) : (S ++ o :: T)[S.length + 1 + k]? = T[k]? := by
  rw [List.getElem?_append_right (by omega), show S.length + 1 + k - S.length = k + 1 by omega]
  rfl
theorem set_store (S : Sto) (o : HotO) (T : List HotO) (k : Nat) (y : HotO) : (S ++ o :: T).set (S.length + 1 + k) y = S ++ o :: T.set k y := by
  rw [List.set_append_right _ _ (by omega), show S.length + 1 + k - S.length = k + 1 by omega]
  rfl
def stQ (n : Nat) (kids : Str → List D) (fs : List Str) (a b c : List D) : List HotO :=
  [.lst (kids ""), .dic (partsK n fs), .lst a, .lst b, .lst c, .dic (sortsK n)] ++ fs.map fun f => .lst (kids f)
theorem stP_eq (n : Nat) (L : List (Str × D)) : stP n L = stQ n (kidsP L) (foldsP L) (sortsP L "file") (sortsP L "folder") (sortsP L "reference") := rfl
theorem map_set {α β : Type} [DecidableEq α] (f g : α → β) (x : α) : ∀ (l : List α) (i : Nat), l.Nodup → l[i]? = some x → (∀ y ∈ l, y ≠ x → g y = f y) → (l.map f).set i (g x) = l.map g
  | [], i, _, h, _ => by simp at h
  | a :: l, 0, hn, h, hg => by
    have e : a = x := by simpa using h
    subst e
    show g a :: l.map f = g a :: l.map g
    congr 1
    refine List.map_congr_left fun y hy => ?_
    have hne : y ≠ a := fun z => (List.nodup_cons.mp hn).1 (z ▸ hy)
    exact (hg y (List.mem_cons_of_mem _ hy) hne).symm
  | a :: l, i + 1, hn, h, hg => by
    have hx : l[i]? = some x := by simpa using h
    have hne : a ≠ x := fun z => (List.nodup_cons.mp hn).1 (z ▸ List.mem_of_getElem? hx)
    show f a :: (l.map f).set i (g x) = g a :: l.map g
    rw [map_set f g x l i (List.nodup_cons.mp hn).2 hx fun y hy => hg y (List.mem_cons_of_mem _ hy), hg a List.mem_cons_self hne]
theorem kids_le (L : List (Str × D)) (f : Str) : (kidsP L f).length ≤ L.length := by
  unfold kidsP
  rw [List.length_map]
  exact List.length_filter_le _ _
theorem sorts_le (L : List (Str × D)) (f : Str) : (sortsP L f).length ≤ L.length := by
  unfold sortsP
  rw [List.length_map]
  exact List.length_filter_le _ _
theorem folds_le (L : List (Str × D)) : (foldsP L).length ≤ L.length := by
  unfold foldsP
  rw [List.length_map]
  exact List.length_filter_le _ _
/-- a name is added to its parent's list -/
theorem st_kid {n : Nat} {L : List (Str × D)} {e : Str × D} {fs : List Str} {a b c : List D} (hn : fs.Nodup) (h0 : ("" : Str) ∉ fs) (hp : parentL e.1 = "" ∨ parentL e.1 ∈ fs) :
    ∃ k l, l.length ≤ L.length ∧ getA (partsK n fs) (.inr (parentL e.1)) = some (.hot (n + 1 + k)) ∧ (stQ n (kidsP L) fs a b c)[k]? = some (.lst l) ∧ (stQ n (kidsP L) fs a b c).set k (.lst (l ++ [.str (lastN e.1)])) = stQ n (kidsP (L ++ [e])) fs a b c := by
  by_cases h : parentL e.1 = ""
  · refine ⟨0, kidsP L "", kids_le _ _, by rw [h]; simp [partsK, getA], rfl, ?_⟩
    unfold stQ
    show (HotO.lst (kidsP L "" ++ [.str (lastN e.1)]) :: ([.dic (partsK n fs), .lst a, .lst b, .lst c, .dic (sortsK n)] ++ fs.map fun f => HotO.lst (kidsP L f))) = _
    rw [show kidsP (L ++ [e]) "" = kidsP L "" ++ [.str (lastN e.1)] by rw [kids_snoc, if_pos h]]
    have hm : (fs.map fun f => HotO.lst (kidsP (L ++ [e]) f)) = fs.map fun f => HotO.lst (kidsP L f) := List.map_congr_left fun f hf => by
      rw [kids_snoc, if_neg fun z => h0 (by rw [← h, z]; exact hf), List.append_nil]
    rw [hm]
    rfl
  · have hf := hp.resolve_left h
    obtain ⟨i, h1, h2⟩ := idxK_get (n := n) (j := 0) hf
    refine ⟨6 + i, kidsP L (parentL e.1), kids_le _ _, ?_, ?_, ?_⟩
    · have : getA (partsK n fs) (.inr (parentL e.1)) = getA (idxK n fs 0) (.inr (parentL e.1)) := by
        unfold partsK getA
        rw [List.find?_cons]
        have : decide (((Sum.inr ("" : Str) : Key)) = Sum.inr (parentL e.1)) = false := by simpa using fun z => h z.symm
        rw [this]
      rw [this, h2]
      congr 2
      omega
    · unfold stQ
      rw [List.getElem?_append_right (by simp), show 6 + i - ([HotO.lst (kidsP L ""), .dic (partsK n fs), .lst a, .lst b, .lst c, .dic (sortsK n)]).length = i by simp]
      rw [List.getElem?_map, h1]
      rfl
    · unfold stQ
      rw [List.set_append_right _ _ (by simp), show 6 + i - ([HotO.lst (kidsP L ""), .dic (partsK n fs), .lst a, .lst b, .lst c, .dic (sortsK n)]).length = i by simp]
      have e1 : HotO.lst (kidsP L (parentL e.1) ++ [.str (lastN e.1)]) = (fun f => HotO.lst (kidsP (L ++ [e]) f)) (parentL e.1) := by
        dsimp only
        rw [kids_snoc, if_pos rfl]
      rw [e1, map_set (fun f => HotO.lst (kidsP L f)) (fun f => HotO.lst (kidsP (L ++ [e]) f)) (parentL e.1) fs i hn h1 fun y _ hy => by
        show HotO.lst (kidsP (L ++ [e]) y) = HotO.lst (kidsP L y)
        rw [kids_snoc, if_neg (Ne.symm hy), List.append_nil]]
      rw [show kidsP (L ++ [e]) "" = kidsP L "" by rw [kids_snoc, if_neg h, List.append_nil]]
theorem st_sort {n : Nat} {K : Str → List D} {L : List (Str × D)} {e : Str × D} {fs : List Str} :
    ∃ k l, l.length ≤ L.length ∧ getA (sortsK n) (.inr (kindS e.2)) = some (.hot (n + 1 + k)) ∧ (stQ n K fs (sortsP L "file") (sortsP L "folder") (sortsP L "reference"))[k]? = some (.lst l) ∧
      (stQ n K fs (sortsP L "file") (sortsP L "folder") (sortsP L "reference")).set k (.lst (l ++ [.str e.1])) = stQ n K fs (sortsP (L ++ [e]) "file") (sortsP (L ++ [e]) "folder") (sortsP (L ++ [e]) "reference") := by
  have d1 : ("file" : Str) ≠ "folder" := by decide +kernel
  have d2 : ("file" : Str) ≠ "reference" := by decide +kernel
  have d3 : ("folder" : Str) ≠ "reference" := by decide +kernel
  have hk : kindS e.2 = "file" ∨ kindS e.2 = "folder" ∨ kindS e.2 = "reference" := by
    cases e.2 <;> simp [kindS]
  rw [sorts_snoc, sorts_snoc, sorts_snoc]
  rcases hk with h | h | h
  · rw [h, if_pos rfl, if_neg d1, if_neg d2, List.append_nil, List.append_nil]
    exact ⟨2, _, sorts_le _ _, by simp [sortsK, getA], rfl, rfl⟩
  · rw [h, if_pos rfl, if_neg (Ne.symm d1), if_neg d3, List.append_nil, List.append_nil]
    exact ⟨3, _, sorts_le _ _, by simp [sortsK, getA, d1], rfl, rfl⟩
  · rw [h, if_pos rfl, if_neg (Ne.symm d2), if_neg (Ne.symm d3), List.append_nil, List.append_nil]
    exact ⟨4, _, sorts_le _ _, by simp [sortsK, getA, d2, d3], rfl, rfl⟩
theorem st_fold {n : Nat} {K : Str → List D} {fs : List Str} {a b c : List D} {p : Str} (hp : p ∉ fs) (h0 : p ≠ "") (hk : K p = []) :
    (stQ n K fs a b c ++ [HotO.lst []]).set 1 (.dic (putA (partsK n fs) (.inr p) (.hot (n + 1 + (stQ n K fs a b c).length)))) = stQ n K (fs ++ [p]) a b c := by
  have hl : (stQ n K fs a b c).length = 6 + fs.length := by unfold stQ; simp; omega
  have hany : ∀ (gs : List Str) (j : Nat), p ∉ gs → ((idxK n gs j).any fun kv => decide (kv.1 = (Sum.inr p : Key))) = false := by
    intro gs
    induction gs with
    | nil => intro j _; rfl
    | cons g gs ih =>
      intro j hg
      unfold idxK
      rw [List.any_cons, ih _ fun z => hg (List.mem_cons_of_mem _ z)]
      simp
      exact fun z => hg (z ▸ List.mem_cons_self)
  have hput : putA (partsK n fs) (.inr p) (.hot (n + 1 + (stQ n K fs a b c).length)) = partsK n (fs ++ [p]) := by
    unfold putA
    rw [if_neg (by unfold partsK; rw [List.any_cons, hany fs 0 hp]; simpa using Ne.symm h0)]
    unfold partsK
    rw [idxK_snoc, hl, List.cons_append]
    congr 3
    simp
    omega
  rw [hput]
  unfold stQ
  rw [List.map_append, List.map_cons, List.map_nil, hk]
  simp
/-- a loop whose store is told by what is done -/
theorem forF_pre {α : Type} {gF : D → Env → Option Env} {Φ : Env → Sto → Flow} (g : α → D) (I : Env → Prop) (St : List α → Sto) : ∀ (todo done : List α) (ρ : Env), I ρ →
    (∀ (d1 : List α) (x : α) (d2 : List α), done ++ todo = d1 ++ x :: d2 → ∀ ρ, I ρ → ∃ ρ1 ρ2, gF (g x) ρ = some ρ1 ∧ Φ ρ1 (St d1) = .nx ρ2 (St (d1 ++ [x])) ∧ I ρ2) →
    ∃ ρ', I ρ' ∧ forF gF Φ (todo.map g) ρ (St done) = .nx ρ' (St (done ++ todo))
  | [], done, ρ, h, _ => ⟨ρ, h, by rw [List.append_nil]; rfl⟩
  | x :: todo, done, ρ, h, step => by
    obtain ⟨ρ1, ρ2, e1, e2, h2⟩ := step done x todo rfl ρ h
    obtain ⟨ρ', h', e⟩ := forF_pre g I St todo (done ++ [x]) ρ2 h2 fun d1 y d2 hd => step d1 y d2 (by rw [← hd]; simp)
    refine ⟨ρ', h', ?_⟩
    rw [List.map_cons]
    unfold forF
    rw [e1]
    dsimp only
    rw [e2]
    dsimp only
    rw [e]
    simp
/-- what the loop of __init__ needs of the rows -/
structure WellE (d1 : List (Str × D)) (e : Str × D) : Prop where
  par : parentL e.1 = "" ∨ parentL e.1 ∈ foldsP d1
  nd : (foldsP d1).Nodup
  no : ("" : Str) ∉ foldsP d1
  new : e.1 ∉ foldsP d1
  ne : e.1 ≠ ""
  kid : kidsP (d1 ++ [e]) e.1 = []
def WellC (R : List (Str × D)) : Prop := ∀ d1 e d2, R = d1 ++ e :: d2 → WellE d1 e
theorem vK_store (S : Sto) (o : HotO) (T : List HotO) (k : Nat) (l : List (Key × D)) (h : T[k]? = some (.dic l)) : vK (S ++ o :: T) (.hot (S.length + 1 + k)) = some l := by
  unfold vK
  dsimp only
  rw [at_store, h]
theorem hK_store (S : Sto) (o : HotO) (T : List HotO) (k : Nat) (l : List (Key × D)) (h : T[k]? = some (.dic l)) : hotK (S ++ o :: T) (S.length + 1 + k) = some l := by
  unfold hotK
  rw [at_store, h]
theorem last_at {p : Str} (h : p ≠ "") (S : Sto) : opIx S (.tup ((namesL p).map D.str)) (.int (-1)) = some (.str (lastN p)) := by
  have hne : namesL p ≠ [] := by
    intro z
    have := join_names p
    rw [z] at this
    exact h this.symm
  obtain ⟨x, l, e⟩ : ∃ x l, namesL p = l ++ [x] := ⟨(namesL p).getLast hne, (namesL p).dropLast, (List.dropLast_concat_getLast hne).symm⟩
  unfold lastN
  rw [e]
  show atI _ _ = _
  unfold atI ixN
  simp
  rw [if_pos (by omega), show (-1 + ((l.length : Int) + 1)).toNat = l.length by omega]
  simp
end DL
set_option Elab.async false
set_option linter.all false
set_option maxRecDepth 100000
set_option maxHeartbeats 4000000
set_option autoImplicit false
namespace DL
open PySem PySem.Spec PyProof.Rows L2
/-! ### entries that are right: what stands in the package -/
theorem isNone_eq {d : D} : isNoneD d = true ↔ d = .non := by
  cases d <;> simp [isNoneD]
theorem ep_pt {p : Str} (h : isEP p = true) : isPt p = true := by
  unfold isEP at h
  exact (Bool.and_eq_true_iff.mp h).1
theorem ep_len {p : Str} (h : isEP p = true) : 1 ≤ (namesL p).length ∧ (namesL p).length ≤ 10 := by
  unfold isEP at h
  exact of_decide_eq_true (Bool.and_eq_true_iff.mp h).2
theorem ep_short {p : Str} (h : isEP p = true) : p.length ≤ 90 := by
  have h1 := pt_len (ep_pt h)
  have h2 := ep_len h
  have : (namesL p).length * 9 ≤ 10 * 9 := Nat.mul_le_mul_right _ h2.2
  omega
theorem ep_ne {p : Str} (h : isEP p = true) : p ≠ "" := by
  rintro rfl
  have := (ep_len h).1
  have e : namesL "" = [] := by unfold namesL; rw [if_pos rfl]
  rw [e] at this
  simp at this
theorem ep_begins {p q : Str} (h : isEP p = true) (hq : q ∈ begins p) : isEP q = true := by
  obtain ⟨h1, h2, h3, -⟩ := begins_pt (ep_pt h) hq
  have := ep_len h
  unfold isEP
  rw [h1, Bool.true_and, decide_eq_true_eq]
  omega
structure Right (es : List (Str × D)) : Prop where
  key : ∀ e ∈ es, isEP e.1 = true
  item : ∀ e ∈ es, okItem ((getE es e.1).getD .non) = true
  up : ∀ e ∈ es, ∀ q ∈ begins e.1, (getE es q).getD .non = .non
theorem bad_right {es : List (Str × D)} : badE es = none ↔ Right es := by
  unfold badE
  constructor
  · intro h
    split at h
    · cases h
    · rename_i h0
      rw [List.find?_eq_none] at h h0
      have h0 : ∀ e ∈ es, isEP e.1 = true := fun e he => by
        have := h0 e.1 ((List.mergeSort_perm _ _).mem_iff.mpr (List.mem_map_of_mem he))
        simpa using this
      refine ⟨h0, fun e he => ?_, fun e he q hq => ?_⟩
      · have := h e.1 ((List.mergeSort_perm _ _).mem_iff.mpr (List.mem_map_of_mem he))
        simp at this
        exact this.1
      · have := h e.1 ((List.mergeSort_perm _ _).mem_iff.mpr (List.mem_map_of_mem he))
        simp at this
        exact isNone_eq.mp (this.2 q hq)
  · rintro ⟨h1, h2, h3⟩
    have e0 : ((sortS (es.map (·.1))).find? fun p => !isEP p) = none := by
      rw [List.find?_eq_none]
      intro p hp
      obtain ⟨e, he, rfl⟩ := List.mem_map.mp ((List.mergeSort_perm _ _).mem_iff.mp hp)
      simp [h1 e he]
    rw [e0]
    dsimp only
    rw [List.find?_eq_none]
    intro p hp
    obtain ⟨e, he, rfl⟩ := List.mem_map.mp ((List.mergeSort_perm _ _).mem_iff.mp hp)
    simp [h2 e he]
    intro q hq
    exact isNone_eq.mpr (h3 e he q hq)
def keysP (es : List (Str × D)) : List Str := onceL (sortP (pathsE es))
theorem comp_keys (es : List (Str × D)) : compE es = (keysP es).map fun q => (q, (getE es q).getD .non) := compE_eq es
theorem Right.ep {es : List (Str × D)} (h : Right es) {q : Str} (hq : q ∈ keysP es) : isEP q = true := by
  obtain ⟨e, he, h1 | rfl⟩ := mem_paths.mp hq
  · exact ep_begins (h.key e he) h1
  · exact h.key e he
theorem Right.above {es : List (Str × D)} (h : Right es) {q r : Str} (hq : q ∈ keysP es) (hr : r ∈ begins q) : r ∈ keysP es ∧ (getE es r).getD .non = .non := by
  obtain ⟨e, he, h1 | rfl⟩ := mem_paths.mp hq
  · have := begins_trans (ep_pt (h.key e he)) h1 hr
    exact ⟨mem_paths.mpr ⟨e, he, .inl this⟩, h.up e he r this⟩
  · exact ⟨mem_paths.mpr ⟨e, he, .inl hr⟩, h.up e he r hr⟩
theorem Right.okI {es : List (Str × D)} (h : Right es) {q : Str} (hq : q ∈ keysP es) : okItem ((getE es q).getD .non) = true := by
  obtain ⟨e, he, h1 | rfl⟩ := mem_paths.mp hq
  · rw [h.up e he q h1]; rfl
  · exact h.item e he
theorem item_len {d : D} (h : okItem d = true) : ∀ z, d = .str z → z.length ≤ 72 := by
  rintro z rfl
  have h := Bool.and_eq_true_iff.mp h
  have h1 := pt_len h.1
  have h2 : (namesL z).length ≤ 8 := of_decide_eq_true h.2
  omega
theorem Right.fit {es : List (Str × D)} (h : Right es) : ∀ e ∈ compE es, Fit e := by
  intro e he
  rw [comp_keys] at he
  obtain ⟨q, hq, rfl⟩ := List.mem_map.mp he
  exact ⟨Nat.le_trans (ep_short (h.ep hq)) (by decide), h.okI hq, fun z hz => Nat.le_trans (item_len (h.okI hq) z hz) (by decide)⟩
theorem Right.paths {es : List (Str × D)} (h : Right es) : ∀ p ∈ pathsE es, p.length ≤ 50000 := by
  intro p hp
  have : p ∈ keysP es := mem_once.mpr ((sortP_perm _).mem_iff.mpr hp)
  exact Nat.le_trans (ep_short (h.ep this)) (by decide)
theorem begins_count {p : Str} (h : isEP p = true) : (begins p).length ≤ 9 := by
  have := ep_len h
  unfold begins
  simp
  omega
theorem Right.many {es : List (Str × D)} (h : Right es) : (pathsE es).length ≤ es.length * 10 := by
  unfold pathsE
  rw [List.length_flatMap, List.map_map]
  refine Nat.le_trans (sum_le _ 10 es fun e he => ?_) (Nat.le_refl _)
  have := begins_count (h.key e he)
  simp
  omega
theorem parent_names {p : Str} (h : isPt p = true) : namesL (parentL p) = (namesL p).take ((namesL p).length - 1) := by
  rw [parent_eq, names_take h]
theorem Right.well {es : List (Str × D)} (h : Right es) : WellC (compE es) := by
  intro d1 e d2 hR
  rw [comp_keys] at hR
  obtain ⟨k1, k2', hK, rfl, h2⟩ := List.map_eq_append_iff.mp hR
  obtain ⟨p, k2, rfl, rfl, rfl⟩ := List.map_eq_cons_iff.mp h2
  have hp : p ∈ keysP es := by rw [hK]; simp
  have hnd : (keysP es).Nodup := nodup_once _
  have hs : (keysP es).Pairwise fun a b => leP a b = true := comp_sorted es
  rw [hK] at hnd hs
  have hf : ∀ x, x ∈ foldsP (k1.map fun q => (q, (getE es q).getD .non)) → x ∈ k1 := by
    intro x hx
    unfold foldsP at hx
    obtain ⟨y, hy, rfl⟩ := List.mem_map.mp hx
    obtain ⟨z, hz, rfl⟩ := List.mem_map.mp (List.mem_filter.mp hy).1
    exact hz
  have hpt := h.ep hp
  have hle : ∀ x ∈ k1 ++ [p], (namesL x).length ≤ (namesL p).length := by
    intro x hx
    rcases List.mem_append.mp hx with hx | hx
    · exact leP_len ((List.pairwise_append.mp hs).2.2 x hx p List.mem_cons_self)
    · rw [List.mem_singleton.mp hx]; exact Nat.le_refl _
  refine ⟨?_, ?_, ?_, ?_, ep_ne hpt, ?_⟩
  · by_cases hl : (namesL p).length ≤ 1
    · exact .inl (parent_one hl)
    · right
      have hb := parent_mem (p := p) (by omega)
      obtain ⟨q1, q2⟩ := h.above hp hb
      have hlen := (begins_pt (ep_pt hpt) hb).2.2.1
      rw [hK] at q1
      have q3 : parentL p ∈ k1 := by
        rcases List.mem_append.mp q1 with q | q
        · exact q
        · rcases List.mem_cons.mp q with q | q
          · rw [q] at hlen; omega
          · have := leP_len (List.rel_of_pairwise_cons (List.pairwise_append.mp hs).2.1 q)
            omega
      unfold foldsP
      refine List.mem_map.mpr ⟨(parentL p, (getE es (parentL p)).getD .non), List.mem_filter.mpr ⟨List.mem_map_of_mem q3, ?_⟩, rfl⟩
      exact isNone_eq.mpr q2
  · unfold foldsP
    refine List.Nodup.sublist (l₂ := (k1.map fun q => (q, (getE es q).getD .non)).map (·.1)) (List.filter_sublist.map _) ?_
    rw [List.map_map]
    have : ((fun x : Str × D => x.1) ∘ fun q => (q, (getE es q).getD .non)) = id := rfl
    rw [this, List.map_id]
    exact (List.nodup_append.mp hnd).1
  · intro z
    exact ep_ne (h.ep (by rw [hK]; exact List.mem_append_left _ (hf _ z))) rfl
  · intro z
    exact (List.nodup_append.mp hnd).2.2 p (hf _ z) p List.mem_cons_self rfl
  · unfold kidsP
    rw [List.map_eq_nil_iff, List.filter_eq_nil_iff]
    intro x hx hd
    have hd : parentL x.1 = p := of_decide_eq_true hd
    have hx : x.1 ∈ k1 ++ [p] := by
      rcases List.mem_append.mp hx with q | q
      · obtain ⟨y, hy, rfl⟩ := List.mem_map.mp q
        exact List.mem_append_left _ hy
      · rw [List.mem_singleton.mp q]
        simp
    have h1 := hle _ hx
    have hx' : x.1 ∈ keysP es := by
      rw [hK]
      rcases List.mem_append.mp hx with q | q
      · exact List.mem_append_left _ q
      · rw [List.mem_singleton.mp q]; simp
    have h2 := parent_names (ep_pt (h.ep hx'))
    have h3 := (ep_len (h.ep hx')).1
    rw [hd] at h2
    rw [h2, List.length_take] at h1
    omega
end DL
set_option Elab.async false
set_option linter.all false
set_option maxRecDepth 100000
set_option maxHeartbeats 4000000
set_option autoImplicit false
namespace DL
open PySem PySem.Spec PyProof.Rows L2
/-! ### texts read -/
def digs (w : Str) : List Nat := if w.cps.toList.head? = some 45 then w.cps.toList.tail else w.cps.toList
def isDig (c : Nat) : Bool := decide (c ∈ (Str.ofString "0123456789").cps.toList)
def contIn (w : Str) : Option Int :=
  if 1 ≤ (digs w).length ∧ (digs w).length ≤ 12 ∧ (digs w).all isDig = true then
    if (digs w).head? = some 48 ∧ w ≠ "0" then none else PySem.intText? w
  else none
def pathIn (w : Str) : Option Str := if w = "." then some "" else if w ≠ "" ∧ isPt w = true then some w else none
def entIn (row : Str) : Option (Str × D) :=
  match Txt.split row " " with
  | [p, k] => if isEP p = true ∧ k = "folder" then some (p, .non) else none
  | [p, k, v] => if isEP p = true then
      if k = "file" then (contIn v).map fun i => (p, .int i)
      else if k = "to" then (match pathIn v with
        | some t => if (namesL t).length ≤ 8 then some (p, .str t) else none
        | none => none) else none
    else none
  | _ => none
def entD : Option (Str × D) → D
  | some e => .tup [.str e.1, e.2]
  | none => .non
def goesOn (es : List (Str × D)) (last p : Str) : Bool := !leP p last && (decide (parentL p = "") || (match getE es (parentL p) with
  | some .non => true
  | _ => false))
def readL : List Str → Nat → List (Str × D) → Str → Except Nat (List (Str × D))
  | [], _, es, _ => .ok es
  | r :: rs, k, es, last => match entIn r with
    | none => .error k
    | some e => if goesOn es last e.1 = true then readL rs (k + 1) (putE es e.1 e.2) e.1 else .error k
def rowsT (t : Str) : List Str := if t = "" then [] else Txt.split t "\n"
def readE (t : Str) : Except Nat (List (Str × D)) := readL (rowsT t) 0 [] ""
theorem cut_one (w : Str) : (cutS w none (some 1) = "-") ↔ w.cps.toList.head? = some 45 := by
  have e : (Str.ofString "-").cps.toList = [45] := by decide +kernel
  have e2 : (cutS w none (some 1)).cps.toList = w.cps.toList.take 1 := by
    have hl : w.cps.toList.length = w.length := Array.length_toList
    unfold cutS
    show (w.cps.toList.drop 0).take (min 1 w.length - 0) = _
    rw [List.drop_zero, Nat.sub_zero]
    rcases Nat.le_total 1 w.length with h | h
    · rw [Nat.min_eq_left h]
    · rw [Nat.min_eq_right h, List.take_of_length_le (by omega), List.take_of_length_le (by omega)]
  have e3 : (cutS w none (some 1) = "-") ↔ (cutS w none (some 1)).cps.toList = [45] := by
    constructor
    · intro h; rw [h]; exact e
    · intro h
      have : (cutS w none (some 1)).cps = ("-" : Str).cps := Array.toList_inj.mp (by rw [h]; exact e.symm)
      cases h1 : cutS w none (some 1)
      rw [h1] at this
      dsimp only at this
      rw [this]
  rw [e3, e2]
  cases w.cps.toList with
  | nil => simp
  | cons a l => simp
theorem cut_tail (w : Str) : (cutS w (some 1) none).cps.toList = w.cps.toList.tail := by
  have hl : w.cps.toList.length = w.length := Array.length_toList
  unfold cutS
  show (w.cps.toList.drop (min 1 w.length)).take (w.length - min 1 w.length) = _
  rcases Nat.le_total 1 w.length with h | h
  · rw [Nat.min_eq_left h, List.take_of_length_le (by rw [List.length_drop]; omega), List.drop_one]
  · rw [Nat.min_eq_right h, List.take_of_length_le (by rw [List.length_drop]; omega)]
    cases h0 : w.cps.toList with
    | nil => simp
    | cons a l => rw [h0] at hl; simp at hl; have : l = [] := List.eq_nil_of_length_eq_zero (by omega); subst this; simp at hl; rw [← hl]; rfl
def digS (w : Str) : Str := if w.cps.toList.head? = some 45 then cutS w (some 1) none else w
theorem digS_eq (w : Str) : (digS w).cps.toList = digs w := by
  unfold digS digs
  split
  · exact cut_tail w
  · rfl
theorem dig_iff {c : Nat} : isDig c = true ↔ 48 ≤ c ∧ c ≤ 57 := by
  have e : (Str.ofString "0123456789").cps.toList = [48, 49, 50, 51, 52, 53, 54, 55, 56, 57] := by decide +kernel
  unfold isDig
  rw [e, decide_eq_true_eq]
  simp
  omega
theorem cont_int {w : Str} (h1 : 1 ≤ (digs w).length) (h2 : (digs w).length ≤ 12) (h : (digs w).all isDig = true) : ∃ n, PySem.intText? w = some n := by
  have hl : w.cps.toList.length = w.length := Array.length_toList
  have hd : NumText.AllDigits (digs w) := fun c hc => dig_iff.mp (List.all_eq_true.mp h c hc)
  have hne : digs w ≠ [] := by intro z; rw [z] at h1; simp at h1
  unfold digs at h1 h2 hd hne
  split at hd
  · rename_i hh
    rw [if_pos hh] at h1 h2 hne
    cases hw : w.cps.toList with
    | nil => rw [hw] at hh; simp at hh
    | cons a l =>
      rw [hw] at hh h1 h2 hd hne hl
      simp at hh
      subst hh
      simp at h1 h2 hl
      exact ⟨_, intText_neg hw hd (by simpa using hne) (by omega)⟩
  · rename_i hh
    rw [if_neg hh] at h1 h2 hne
    exact ⟨_, intText_digits hd hne (by omega)⟩
theorem ep_iff {p : Str} : isEP p = true ↔ p ≠ "" ∧ isPt p = true ∧ (namesL p).length ≤ 10 := by
  constructor
  · exact fun h => ⟨ep_ne h, ep_pt h, (ep_len h).2⟩
  · rintro ⟨h1, h2, h3⟩
    unfold isEP
    rw [h2, Bool.true_and, decide_eq_true_eq]
    refine ⟨?_, h3⟩
    rcases Nat.eq_zero_or_pos (namesL p).length with z | z
    · have := join_names p
      rw [List.eq_nil_of_length_eq_zero z] at this
      exact absurd this.symm h1
    · exact z
/-! ### signs of texts -/
def sane (w : Str) : Prop := ∀ c ∈ w.cps.toList, c < 1114112
theorem str_ok {s : Str} (h2 : sane s) : PyData.strOk s = true := by
  unfold PyData.strOk
  rw [Array.all_eq_true']
  intro c hc
  exact decide_eq_true (h2 c (by simpa using hc))
theorem lay_strs : ∀ {l : List Str}, (∀ s ∈ l, PyData.strOk s = true) → PyData.canLayAll0 (l.map .str) = true
  | [], _ => rfl
  | x :: l, h => by simp [PyData.canLayAll0, PyData.canLay0, h x (by simp), lay_strs (l := l) fun s hs => h s (List.mem_cons_of_mem _ hs)]
theorem shaped_strs {l : List Str} (h : ∀ s ∈ l, PyData.strOk s = true) : SeqAt.shaped (.list (l.map .str)) = true := by
  simp [SeqAt.shaped, PyData.canLay0, lay_strs h, PyData.depth, depth_strs]
theorem ne_nil (S : Sto) {l : List Str} (h : ∀ s ∈ l, sane s) : opNe S (.lst (l.map .str)) (.lst []) = some (.bl (!l.isEmpty)) := by
  have h1 := shaped_strs fun s hs => str_ok (h s hs)
  have h2 : SeqAt.shaped (.list []) = true := by decide +kernel
  have h3 : PyData.eqv (.list (l.map .str)) (.list []) = l.isEmpty := by cases l <;> rfl
  unfold opNe eqD
  simp [scD, toPy, toPys_strs, h1, toPys, h2, h3]
theorem joinL_in {a x : List Nat} {c : Nat} : ∀ {l : List (List Nat)}, x ∈ l → c ∈ x → c ∈ TL.joinL a l
  | [], h, _ => nomatch h
  | [y], h, hc => by
    rw [List.mem_singleton.mp h] at hc
    exact hc
  | y :: z :: r, h, hc => by
    show c ∈ y ++ (a ++ TL.joinL a (z :: r))
    rcases List.mem_cons.mp h with q | q
    · rw [q] at hc; exact List.mem_append_left _ hc
    · exact List.mem_append_right _ (List.mem_append_right _ (joinL_in q hc))
theorem split_in {a b p : Str} {s : Nat} (hb : TL.tl b = [s]) (hk : b.cps.all (· < 256) = true) (h : p ∈ Txt.split a b) : ∀ c ∈ p.cps.toList, c ∈ a.cps.toList := by
  intro c hc
  have e := join_spl s (TL.tl a) []
  have e2 := TL.split_spl a b (by rw [hb]; simp) (TL.kind_ok hk)
  rw [hb] at e2
  rw [← e2, List.nil_append] at e
  show c ∈ TL.tl a
  rw [← e]
  exact joinL_in (List.mem_map_of_mem h) hc
theorem split_sp {a p : Str} (h : p ∈ Txt.split a " ") : ∀ c ∈ p.cps.toList, c ∈ a.cps.toList := split_in (s := 32) (by decide +kernel) (by decide +kernel) h
theorem split_nl {a p : Str} (h : p ∈ Txt.split a "\n") : ∀ c ∈ p.cps.toList, c ∈ a.cps.toList := split_in (s := 10) (by decide +kernel) (by decide +kernel) h
theorem le_key (S : Sto) (p q : Str) : opLtX (fun p q => !PySem.W.dataLt q p) S (keyL p) (keyL q) = some (.bl (leP p q)) := by
  have h1 : toPy (cl S (keyL p)) = some (keyP p) := enc_key p
  have h2 : toPy (cl S (keyL q)) = some (keyP q) := enc_key q
  have h3 : (keyP p).depth ≤ 60 := by simp [keyP, PyData.depth, PyData.depthAll, depth_strs]
  unfold opLtX
  rw [h1, Option.bind_some, h2, Option.bind_some, if_pos ⟨alike_key p q, h3, rfl⟩, leP_lt]
theorem ent_ep {r : Str} {e : Str × D} (h : entIn r = some e) : isEP e.1 = true := by
  unfold entIn at h
  split at h
  · split at h
    · rename_i q; cases h; exact q.1
    · cases h
  · split at h
    · rename_i q
      split at h
      · obtain ⟨i, _, rfl⟩ := Option.map_eq_some_iff.mp h
        exact q
      · split at h
        · split at h
          · split at h
            · cases h; exact q
            · cases h
          · cases h
        · cases h
    · cases h
  · cases h
theorem putE_len (l : List (Str × D)) (p : Str) (d : D) : (putE l p d).length ≤ l.length + 1 := by
  unfold putE
  split <;> simp
theorem hK_new (S : Sto) (l : List (Key × D)) : hotK (S ++ [.dic l]) S.length = some l := by
  unfold hotK
  rw [List.getElem?_append_right (Nat.le_refl _), Nat.sub_self]
  rfl
theorem vK_new (S : Sto) (l : List (Key × D)) : vK (S ++ [.dic l]) (.hot S.length) = some l := by
  unfold vK
  dsimp only
  rw [List.getElem?_append_right (Nat.le_refl _), Nat.sub_self]
  rfl
theorem set_last (S : Sto) (x y : HotO) : (S ++ [x]).set S.length y = S ++ [y] := by
  rw [List.set_append_right _ _ (Nat.le_refl _), Nat.sub_self]
  rfl
end DL
set_option Elab.async false
set_option linter.all false
set_option maxRecDepth 100000
set_option maxHeartbeats 4000000
set_option autoImplicit false
namespace DL
open PySem PySem.Spec PyProof.Rows L2
/-! ### what is read is a package's entries, whole -/
theorem le_trans' {a b c : Str} (h1 : leP a b = true) (h2 : leP b c = true) : leP a c = true := leP_total.trans a b c h1 h2
theorem le_of_not {a b : Str} (h : leP a b = false) : leP b a = true := by
  have := leP_total.total a b
  rw [h] at this
  simpa using this
theorem val_lt : ∀ (cs : List Nat) (a : Nat), NumText.AllDigits cs → cs.foldl (fun acc c => acc * 10 + (c - 48)) a + 1 ≤ (a + 1) * 10 ^ cs.length
  | [], a, _ => by simp
  | c :: cs, a, h => by
    have hc := h c List.mem_cons_self
    have ih := val_lt cs (a * 10 + (c - 48)) fun d hd => h d (List.mem_cons_of_mem _ hd)
    rw [List.foldl_cons, List.length_cons]
    refine Nat.le_trans ih ?_
    rw [show (a + 1) * 10 ^ (cs.length + 1) = ((a + 1) * 10) * 10 ^ cs.length by rw [Nat.pow_succ, Nat.mul_comm (10 ^ cs.length) 10, Nat.mul_assoc]]
    exact Nat.mul_le_mul_right _ (by omega)
theorem val_small {cs : List Nat} (h : NumText.AllDigits cs) (hl : cs.length ≤ 12) : NumText.digitsVal cs ≤ 999999999999 := by
  have h1 := val_lt cs 0 h
  have h2 : 10 ^ cs.length ≤ 10 ^ 12 := Nat.pow_le_pow_right (by decide) hl
  unfold NumText.digitsVal
  omega
theorem cont_ok {w : Str} {i : Int} (h : contIn w = some i) : i.natAbs ≤ 999999999999 := by
  unfold contIn at h
  split at h
  · rename_i hc
    obtain ⟨h1, h2, h3⟩ := hc
    split at h
    · cases h
    · have hl : w.cps.toList.length = w.length := Array.length_toList
      have hd : NumText.AllDigits (digs w) := fun c hc => dig_iff.mp (List.all_eq_true.mp h3 c hc)
      have hv := val_small hd h2
      have hne : digs w ≠ [] := by intro z; rw [z] at h1; simp at h1
      unfold digs at h1 h2 hd hne hv
      split at hd
      · rename_i hh
        rw [if_pos hh] at h1 h2 hne hv
        cases hw : w.cps.toList with
        | nil => rw [hw] at hh; simp at hh
        | cons a l =>
          rw [hw] at hh h1 h2 hd hne hl hv
          simp at hh
          subst hh
          simp at h1 h2 hl
          rw [intText_neg hw hd (by simpa using hne) (by omega)] at h
          cases h
          rw [Int.natAbs_neg]
          exact hv
      · rename_i hh
        rw [if_neg hh] at h1 h2 hne hv
        rw [intText_digits hd hne (by omega)] at h
        cases h
        exact hv
  · cases h
theorem path_ok {w t : Str} (h : pathIn w = some t) : isPt t = true := by
  unfold pathIn at h
  split at h
  · cases h; decide +kernel
  · split at h
    · rename_i q; cases h; exact q.2
    · cases h
theorem ent_ok {r : Str} {e : Str × D} (h : entIn r = some e) : okItem e.2 = true := by
  unfold entIn at h
  split at h
  · split at h
    · cases h; rfl
    · cases h
  · split at h
    · split at h
      · obtain ⟨i, hi, rfl⟩ := Option.map_eq_some_iff.mp h
        exact decide_eq_true (cont_ok hi)
      · split at h
        · split at h
          · rename_i t ht
            split at h
            · rename_i q
              cases h
              show (isPt t && decide _) = true
              rw [path_ok ht, decide_eq_true q]
              rfl
            · cases h
          · cases h
        · cases h
    · cases h
  · cases h
/-- entries as they stand in a package -/
structure Whole (es : List (Str × D)) : Prop where
  ep : ∀ e ∈ es, isEP e.1 = true
  it : ∀ e ∈ es, okItem e.2 = true
  lt : (es.map (·.1)).Pairwise fun a b => leP b a = false
  par : ∀ e ∈ es, parentL e.1 = "" ∨ (parentL e.1, D.non) ∈ es
theorem leP_refl (a : Str) : leP a a = true := by
  have := leP_total.total a a
  simpa using this
theorem Whole.nodup {es : List (Str × D)} (h : Whole es) : (es.map (·.1)).Nodup := h.lt.imp fun {a b} q e => by
  subst e
  rw [leP_refl] at q
  cases q
theorem get_mem {es : List (Str × D)} (hn : (es.map (·.1)).Nodup) {e : Str × D} (he : e ∈ es) : getE es e.1 = some e.2 := by
  obtain ⟨x, hx, h1, h2⟩ := getE_mem (es := es) (p := e.1) (List.mem_map_of_mem he)
  rw [h2]
  have : x = e := by
    induction es with
    | nil => cases he
    | cons y r ih =>
      rw [List.map_cons, List.nodup_cons] at hn
      rcases List.mem_cons.mp he with q1 | q1 <;> rcases List.mem_cons.mp hx with q2 | q2
      · rw [q1, q2]
      · exfalso; apply hn.1; rw [← q1, ← h1]; exact List.mem_map_of_mem q2
      · exfalso; apply hn.1; rw [← q2, h1]; exact List.mem_map_of_mem q1
      · refine ih hn.2 q1 q2 ?_
        have hne : y.1 ≠ e.1 := fun z => hn.1 (z ▸ List.mem_map_of_mem q1)
        have : getE (y :: r) e.1 = getE r e.1 := by
          unfold getE getA kv
          rw [List.map_cons, List.find?_cons]
          simp [hne]
        rw [← this]
        exact h2
  rw [this]
theorem begins_step {p q : Str} (hp : isPt p = true) (h : q ∈ begins p) : q = parentL p ∨ q ∈ begins (parentL p) := by
  obtain ⟨k, k1, k2, rfl⟩ := mem_begins.mp h
  by_cases hk : k = (namesL p).length - 1
  · left; rw [hk, parent_eq]
  · right
    refine mem_begins.mpr ⟨k, k1, ?_, ?_⟩
    · rw [parent_names hp, List.length_take]; omega
    · rw [parent_names hp, List.take_take, Nat.min_eq_left (by omega)]
theorem begins_two {p q : Str} (h : q ∈ begins p) : 2 ≤ (namesL p).length := by
  obtain ⟨k, k1, k2, rfl⟩ := mem_begins.mp h
  omega
theorem Whole.above {es : List (Str × D)} (h : Whole es) : ∀ (n : Nat) {e : Str × D} {q : Str}, (namesL e.1).length ≤ n → e ∈ es → q ∈ begins e.1 → (q, D.non) ∈ es
  | 0, e, q, hn, he, hq => by have := begins_two hq; omega
  | n + 1, e, q, hn, he, hq => by
    have h2 := begins_two hq
    have hpar : (parentL e.1, D.non) ∈ es := by
      rcases h.par e he with z | z
      · exfalso
        have := parent_names (ep_pt (h.ep e he))
        rw [z, show namesL "" = [] by unfold namesL; rw [if_pos rfl]] at this
        have := congrArg List.length this
        rw [List.length_take] at this
        simp at this
        omega
      · exact z
    rcases begins_step (ep_pt (h.ep e he)) hq with z | z
    · rw [z]; exact hpar
    · refine h.above n (e := (parentL e.1, D.non)) ?_ hpar z
      show (namesL (parentL e.1)).length ≤ n
      rw [parent_names (ep_pt (h.ep e he)), List.length_take]
      omega
theorem Whole.right {es : List (Str × D)} (h : Whole es) : Right es := by
  refine ⟨h.ep, fun e he => ?_, fun e he q hq => ?_⟩
  · rw [get_mem h.nodup he]
    exact h.it e he
  · have := h.above _ (Nat.le_refl _) he hq
    rw [get_mem (e := (q, D.non)) h.nodup this]
    rfl
theorem strict_eq : ∀ {l1 l2 : List Str}, l1.Nodup → l2.Nodup → (∀ x, x ∈ l1 ↔ x ∈ l2) → (l1.Pairwise fun a b => leP a b = true) → (l2.Pairwise fun a b => leP b a = false) → l1 = l2
  | [], [], _, _, _, _, _ => rfl
  | [], y :: r, _, _, h, _, _ => by have := (h y).mpr List.mem_cons_self; cases this
  | x :: r, [], _, _, h, _, _ => by have := (h x).mp List.mem_cons_self; cases this
  | x :: r, y :: s, n1, n2, h, h1, h2 => by
    have hxy : x = y := by
      by_cases z : x = y
      · exact z
      · have hx : x ∈ s := (List.mem_cons.mp ((h x).mp List.mem_cons_self)).resolve_left z
        have hy : y ∈ r := (List.mem_cons.mp ((h y).mpr List.mem_cons_self)).resolve_left (Ne.symm z)
        have q1 := List.rel_of_pairwise_cons h1 hy
        have q2 := List.rel_of_pairwise_cons h2 hx
        rw [q1] at q2
        cases q2
    subst hxy
    rw [List.nodup_cons] at n1 n2
    rw [strict_eq n1.2 n2.2 (fun z => ?_) (List.pairwise_cons.mp h1).2 (List.pairwise_cons.mp h2).2]
    constructor
    · intro hz
      rcases List.mem_cons.mp ((h z).mp (List.mem_cons_of_mem _ hz)) with q | q
      · exact absurd (q ▸ hz) n1.1
      · exact q
    · intro hz
      rcases List.mem_cons.mp ((h z).mpr (List.mem_cons_of_mem _ hz)) with q | q
      · exact absurd (q ▸ hz) n2.1
      · exact q
theorem Whole.keys {es : List (Str × D)} (h : Whole es) : keysP es = es.map (·.1) := by
  refine strict_eq (nodup_once _) h.nodup (fun x => ?_) (comp_sorted es) h.lt
  unfold keysP
  rw [mem_paths]
  constructor
  · rintro ⟨e, he, q | rfl⟩
    · exact List.mem_map_of_mem (f := (·.1)) (h.above _ (Nat.le_refl _) he q)
    · exact List.mem_map_of_mem he
  · intro hx
    obtain ⟨e, he, rfl⟩ := List.mem_map.mp hx
    exact ⟨e, he, .inr rfl⟩
/-- nothing is to be added -/
theorem Whole.comp {es : List (Str × D)} (h : Whole es) : compE es = es := by
  rw [comp_keys, h.keys, List.map_map]
  refine Eq.trans (List.map_congr_left (g := id) fun e he => ?_) (List.map_id es)
  show (e.1, (getE es e.1).getD .non) = e
  rw [get_mem h.nodup he]
  rfl
/-- what read_entries has read so far -/
theorem whole_snoc {es : List (Str × D)} {e : Str × D} {last : Str} (h : Whole es) (hl : ∀ x ∈ es, leP x.1 last = true) (h1 : isEP e.1 = true) (h2 : okItem e.2 = true) (hg : goesOn es last e.1 = true) :
    putE es e.1 e.2 = es ++ [e] ∧ Whole (es ++ [e]) ∧ ∀ x ∈ es ++ [e], leP x.1 e.1 = true := by
  unfold goesOn at hg
  obtain ⟨g1, g2⟩ := Bool.and_eq_true_iff.mp hg
  have g1 : leP e.1 last = false := by simpa using g1
  have below : ∀ x ∈ es, leP e.1 x.1 = false := fun x hx => by
    cases hc : leP e.1 x.1 with
    | false => rfl
    | true =>
      rw [le_trans' hc (hl x hx)] at g1
      cases g1
  have new : ∀ x ∈ es, x.1 ≠ e.1 := fun x hx z => by
    have := below x hx
    rw [z, leP_refl] at this
    cases this
  refine ⟨?_, ⟨fun x hx => ?_, fun x hx => ?_, ?_, fun x hx => ?_⟩, fun x hx => ?_⟩
  · unfold putE
    rw [if_neg]
    intro z
    obtain ⟨x, hx, q⟩ := List.any_eq_true.mp z
    exact new x hx (of_decide_eq_true q)
  · rcases List.mem_append.mp hx with q | q
    · exact h.ep x q
    · rw [List.mem_singleton.mp q]; exact h1
  · rcases List.mem_append.mp hx with q | q
    · exact h.it x q
    · rw [List.mem_singleton.mp q]; exact h2
  · rw [List.map_append, List.pairwise_append]
    refine ⟨h.lt, by simp, fun a ha b hb => ?_⟩
    obtain ⟨x, hx, rfl⟩ := List.mem_map.mp ha
    have : b = e.1 := by simpa using hb
    subst this
    exact below x hx
  · rcases List.mem_append.mp hx with q | q
    · rcases h.par x q with z | z
      · exact .inl z
      · exact .inr (List.mem_append_left _ z)
    · rw [List.mem_singleton.mp q]
      rcases Bool.or_eq_true_iff.mp g2 with z | z
      · exact .inl (of_decide_eq_true z)
      · right
        split at z
        · rename_i hd
          have hk : parentL e.1 ∈ es.map (·.1) := by
            unfold getE getA at hd
            obtain ⟨kv', h3, h4⟩ := Option.map_eq_some_iff.mp hd
            have h5 := List.mem_of_find?_eq_some h3
            have h6 := List.find?_some h3
            unfold kv at h5
            obtain ⟨y, hy, rfl⟩ := List.mem_map.mp h5
            have : y.1 = parentL e.1 := by simpa using h6
            rw [← this]
            exact List.mem_map_of_mem hy
          obtain ⟨y, hy, q1, q2⟩ := getE_mem hk
          rw [q2] at hd
          refine List.mem_append_left _ ?_
          have : y = (parentL e.1, D.non) := Prod.ext q1 (Option.some.inj hd)
          rw [← this]
          exact hy
        · cases z
  · rcases List.mem_append.mp hx with q | q
    · exact le_of_not (below x q)
    · rw [List.mem_singleton.mp q]; exact leP_refl _
theorem read_whole : ∀ {rows : List Str} {k : Nat} {es : List (Str × D)} {last : Str} {es' : List (Str × D)}, Whole es → (∀ x ∈ es, leP x.1 last = true) → readL rows k es last = .ok es' → Whole es' ∧ es'.length = es.length + rows.length
  | [], k, es, last, es', h, hl, e => by cases e; exact ⟨h, rfl⟩
  | r :: rows, k, es, last, es', h, hl, e => by
    unfold readL at e
    split at e
    · cases e
    · rename_i x hx
      split at e
      · rename_i hg
        obtain ⟨h1, h2, h3⟩ := whole_snoc h hl (ent_ep hx) (ent_ok hx) hg
        rw [h1] at e
        obtain ⟨h4, h5⟩ := read_whole h2 h3 e
        refine ⟨h4, ?_⟩
        rw [h5]
        simp
        omega
      · cases e
theorem whole_nil : Whole [] := ⟨(fun _ h => nomatch h), (fun _ h => nomatch h), List.Pairwise.nil, (fun _ h => nomatch h)⟩
theorem readE_whole {t : Str} {es : List (Str × D)} (h : readE t = .ok es) : Whole es ∧ es.length = (rowsT t).length := by
  have := read_whole whole_nil (fun _ h => nomatch h) h
  simpa using this
end DL
set_option Elab.async false
set_option linter.all false
set_option maxRecDepth 100000
set_option maxHeartbeats 4000000
set_option autoImplicit false
namespace DL
open PySem PySem.Spec PyProof.Rows L2
/-! ### the bag of a law -/
structure Bag where
  x : Int
  y : Int
  z : Int
structure OkB (b : Bag) (k : Nat) : Prop where
  y0 : 0 ≤ b.y
  y1 : b.y < 2305843009213693951
  z0 : 0 ≤ b.z
  z1 : b.z ≤ k
def bagO (b : Bag) : HotO := .lst [.int b.x, .int b.y, .int b.z]
/-- where the bag lies -/
structure Pl where
  S : Sto
  i : Nat
  h : i < S.length
def bg (L : Pl) (b : Bag) : Sto := L.S.set L.i (bagO b)
@[simp] theorem bg_len (L : Pl) (b : Bag) : (bg L b).length = L.S.length := by simp [bg]
@[simp] theorem bg_at (L : Pl) (b : Bag) : (bg L b)[L.i]? = some (bagO b) := by simp [bg, L.h]
@[simp] theorem bg_set (L : Pl) (b c : Bag) : (bg L b).set L.i (bagO c) = bg L c := by simp [bg]
@[simp] theorem hotL_bg (L : Pl) (b : Bag) : hotL (bg L b) L.i = some [.int b.x, .int b.y, .int b.z] := by
  unfold hotL
  rw [bg_at]
  rfl
@[simp] theorem vL_bg (L : Pl) (b : Bag) : vL (bg L b) (.hot L.i) = some [.int b.x, .int b.y, .int b.z] := by
  unfold vL
  dsimp only
  rw [bg_at]
  rfl
theorem set_bag (L : Pl) (b : Bag) (x y z : Int) : (bg L b).set L.i (.lst [.int x, .int y, .int z]) = bg L ⟨x, y, z⟩ := by simp [bg, bagO]
theorem bg_grow (L : Pl) (b : Bag) (G : Sto) : ∃ L' : Pl, L'.i = L.i ∧ bg L b ++ G = bg L' b := by
  refine ⟨⟨L.S ++ G, L.i, by rw [List.length_append]; have := L.h; omega⟩, rfl, ?_⟩
  unfold bg
  rw [List.set_append_left _ _ L.h]
theorem bg_new (S : Sto) (b : Bag) : ∃ L : Pl, L.i = S.length ∧ S ++ [bagO b] = bg L b := by
  refine ⟨⟨S ++ [bagO b], S.length, by simp⟩, rfl, ?_⟩
  unfold bg
  simp
theorem sbS_set {g : Nat → Option D} {o : HotO} (ho : sbO g o = some o) : ∀ {S : Sto} (i : Nat), sbS g S = some S → sbS g (S.set i o) = some (S.set i o)
  | [], i, h => h
  | x :: S, i, h => by
    obtain ⟨x', h1, h⟩ := Option.bind_eq_some_iff.mp h
    obtain ⟨r, h2, e⟩ := Option.map_eq_some_iff.mp h
    cases e
    cases i with
    | zero => exact Option.bind_eq_some_iff.mpr ⟨o, ho, Option.map_eq_some_iff.mpr ⟨S, h2, rfl⟩⟩
    | succ i => exact Option.bind_eq_some_iff.mpr ⟨x, h1, Option.map_eq_some_iff.mpr ⟨_, sbS_set ho i h2, rfl⟩⟩
theorem low_bg {L : Pl} {b c : Bag} (h : LowS (bg L b).length (bg L b)) : LowS (bg L c).length (bg L c) := by
  have := sbS_set (o := bagO c) (g := DL.upTo (bg L b).length) rfl L.i h
  rw [bg_set] at this
  unfold LowS
  rw [bg_len] at this ⊢
  exact this
theorem sbS_app {g : Nat → Option D} : ∀ (X Y : Sto) {X' Y' : List HotO}, sbS g X = some X' → sbS g Y = some Y' → sbS g (X ++ Y) = some (X' ++ Y')
  | [], Y, X', Y', e1, e2 => by cases e1; exact e2
  | x :: X, Y, X', Y', e1, e2 => by
    obtain ⟨x', q1, e1⟩ := Option.bind_eq_some_iff.mp e1
    obtain ⟨r, q2, rfl⟩ := Option.map_eq_some_iff.mp e1
    exact Option.bind_eq_some_iff.mpr ⟨x', q1, Option.map_eq_some_iff.mpr ⟨r ++ Y', sbS_app X Y q2 e2, rfl⟩⟩
theorem lowS_snoc {S : Sto} {o : HotO} (h : LowS S.length S) (ho : ∀ g, sbO g o = some o) : LowS (S ++ [o]).length (S ++ [o]) := by
  unfold LowS at h ⊢
  rw [List.length_append]
  have h1 := sb_monoS (g := DL.upTo S.length) (g' := DL.upTo (S.length + 1)) (fun i d e => by
    unfold DL.upTo at e ⊢
    by_cases hi : i < S.length
    · rw [if_pos hi] at e; rw [if_pos (by omega)]; exact e
    · rw [if_neg hi] at e; cases e) S h
  refine sbS_app S [o] h1 ?_
  show (sbO _ o).bind _ = _
  rw [ho]
  rfl
theorem low_nil : LowS ([] : Sto).length [] := rfl
/-- a loop, its turns counted -/
theorem forF_cnt {gF : D → Env → Option Env} {Φ : Env → Sto → Flow} (I : Nat → Env → Sto → Prop) : ∀ (items : List D) (j : Nat) (ρ : Env) (S : Sto), I j ρ S →
    (∀ d ∈ items, ∀ j' ρ S, j' < j + items.length → I j' ρ S → ∃ ρ1 ρ2 S2, gF d ρ = some ρ1 ∧ Φ ρ1 S = .nx ρ2 S2 ∧ I (j' + 1) ρ2 S2) →
    ∃ ρ' S', forF gF Φ items ρ S = .nx ρ' S' ∧ I (j + items.length) ρ' S'
  | [], j, ρ, S, h, _ => ⟨ρ, S, rfl, h⟩
  | d :: ds, j, ρ, S, h, step => by
    obtain ⟨ρ1, ρ2, S2, e1, e2, h2⟩ := step d List.mem_cons_self j ρ S (by simp) h
    obtain ⟨ρ', S', e, h'⟩ := forF_cnt I ds (j + 1) ρ2 S2 h2 fun d' hd j' ρ S hj => step d' (List.mem_cons_of_mem _ hd) j' ρ S (by simp at hj ⊢; omega)
    refine ⟨ρ', S', ?_, by rw [List.length_cons, show j + (ds.length + 1) = j + 1 + ds.length by omega]; exact h'⟩
    unfold forF
    rw [e1]
    dsimp only
    rw [e2]
    exact e
/-- a loop over items that are told, its state a function of what is done -/
theorem forF_list {α : Type} {gF : D → Env → Option Env} {Φ : Env → Sto → Flow} (g : α → D) (I : List α → Env → Sto → Prop) : ∀ (todo done : List α) (ρ : Env) (S : Sto), I done ρ S →
    (∀ (d1 : List α) (x : α) (d2 : List α), done ++ todo = d1 ++ x :: d2 → ∀ ρ S, I d1 ρ S → ∃ ρ1 ρ2 S2, gF (g x) ρ = some ρ1 ∧ Φ ρ1 S = .nx ρ2 S2 ∧ I (d1 ++ [x]) ρ2 S2) →
    ∃ ρ' S', forF gF Φ (todo.map g) ρ S = .nx ρ' S' ∧ I (done ++ todo) ρ' S'
  | [], done, ρ, S, h, _ => ⟨ρ, S, rfl, by rw [List.append_nil]; exact h⟩
  | x :: todo, done, ρ, S, h, step => by
    obtain ⟨ρ1, ρ2, S2, e1, e2, h2⟩ := step done x todo rfl ρ S h
    obtain ⟨ρ', S', e, h'⟩ := forF_list g I todo (done ++ [x]) ρ2 S2 h2 fun d1 y d2 hd => step d1 y d2 (by rw [← hd]; simp)
    refine ⟨ρ', S', ?_, by rw [show done ++ x :: todo = done ++ [x] ++ todo by simp]; exact h'⟩
    rw [List.map_cons]
    unfold forF
    rw [e1]
    dsimp only
    rw [e2]
    exact e
theorem OkB.mono {b : Bag} {j k : Nat} (h : OkB b j) (hk : j ≤ k) : OkB b k := ⟨h.y0, h.y1, h.z0, by have := h.z1; omega⟩
/-- a comprehension that draws -/
theorem lcF_bag {L : Pl} {gF : D → Env → Option Env} {T : Env → Sto → Res Bool} {F : Env → Sto → Res D} {ρ : Env} {Pr : D → Prop} {K c : Nat} : ∀ {items : List D}, (∀ d ∈ items, ∀ b k, OkB b k → k ≤ K → ∃ ρ1 y b', gF d ρ = some ρ1 ∧ T ρ1 (bg L b) = .ok true (bg L b) ∧ F ρ1 (bg L b) = .ok y (bg L b') ∧ OkB b' (k + c) ∧ Pr y) →
    ∀ (b : Bag) (k : Nat) (acc : List D), OkB b k → k + c * items.length ≤ K → (∀ y ∈ acc, Pr y) → ∃ res b', lcF gF T F ρ items (bg L b) acc = .ok res (bg L b') ∧ OkB b' (k + c * items.length) ∧ (∀ y ∈ res, Pr y) ∧ res.length = acc.length + items.length
  | [], _, b, k, acc, ob, hk, ha => ⟨acc, b, rfl, ob, ha, rfl⟩
  | d :: ds, h, b, k, acc, ob, hk, ha => by
    have em : c * (d :: ds).length = c + c * ds.length := by rw [List.length_cons, Nat.mul_succ, Nat.add_comm]
    rw [em] at hk ⊢
    obtain ⟨ρ1, y, b1, h1, h2, h3, o1, hp⟩ := h d List.mem_cons_self b k ob (by omega)
    obtain ⟨res, b', e, o2, hr, hl⟩ := lcF_bag (items := ds) (fun d' hd => h d' (List.mem_cons_of_mem _ hd)) b1 (k + c) (acc ++ [y]) o1 (by omega) (fun z hz => by
      rcases List.mem_append.mp hz with q | q
      · exact ha z q
      · rw [List.mem_singleton.mp q]; exact hp)
    refine ⟨res, b', ?_, o2.mono (by omega), hr, ?_⟩
    · unfold lcF
      rw [h1]
      simp only [h2, h3]
      exact e
    · rw [hl]
      simp
      omega
theorem lcomp_bag {L : Pl} {vs : List Nat} {Fi : Env → Sto → Res (List D)} {gF : D → Env → Option Env} {T : Env → Sto → Res Bool} {F : Env → Sto → Res D} {ρ : Env} {S : Sto} {K c : Nat} (Pr : D → Prop) (items : List D) (b : Bag) (k : Nat) (hi : Fi ρ S = .ok items (bg L b)) (hn : items.length ≤ 100000) (ob : OkB b k) (hk : k + c * items.length ≤ K)
    (h : ∀ d ∈ items, ∀ b k, OkB b k → k ≤ K → ∃ ρ1 y b', gF d (wipeE ρ vs) = some ρ1 ∧ T ρ1 (bg L b) = .ok true (bg L b) ∧ F ρ1 (bg L b) = .ok y (bg L b') ∧ OkB b' (k + c) ∧ Pr y) : ∃ res b', lcomp vs Fi gF T F ρ S = .ok (.lst res) (bg L b') ∧ OkB b' (k + c * items.length) ∧ (∀ y ∈ res, Pr y) ∧ res.length = items.length := by
  obtain ⟨res, b', e, o, hr, hl⟩ := lcF_bag h b k [] ob hk (fun y hy => nomatch hy)
  refine ⟨res, b', ?_, o, hr, by simpa using hl⟩
  unfold lcomp
  rw [hi]
  show (if items.length ≤ 100000 then _ else _) = _
  rw [if_pos hn, e]
  rfl
theorem rngF_len (lo hi : Int) : (rngF lo hi).length = (hi - lo).toNat := by simp [rngF]
theorem strs_from {P : Str → Prop} : ∀ {res : List D}, (∀ y ∈ res, ∃ w, P w ∧ y = D.str w) → ∃ ns : List Str, res = ns.map .str ∧ ∀ w ∈ ns, P w
  | [], _ => ⟨[], rfl, fun _ h => nomatch h⟩
  | y :: res, h => by
    obtain ⟨w, hw, rfl⟩ := h y List.mem_cons_self
    obtain ⟨ns, rfl, hn⟩ := strs_from fun z hz => h z (List.mem_cons_of_mem _ hz)
    exact ⟨w :: ns, rfl, fun u hu => by
      rcases List.mem_cons.mp hu with q | q
      · rw [q]; exact hw
      · exact hn u q⟩
theorem atI_in {α : Type} {l : List α} {r : Int} (h0 : 0 ≤ r) (h1 : r < l.length) : ∃ x, atI l r = some x ∧ x ∈ l := by
  have hr : r.toNat < l.length := by omega
  refine ⟨l[r.toNat], ?_, List.getElem_mem hr⟩
  unfold atI ixN
  rw [if_pos h0, if_pos h1]
  show l[r.toNat]? = _
  exact List.getElem?_eq_getElem hr
theorem nms_sum : ∀ {ns : List Str}, (∀ w ∈ ns, isNm w = true) → (ns.map (·.length)).sum ≤ 8 * ns.length
  | [], _ => by simp
  | w :: ns, h => by
    have := nm_len (h w List.mem_cons_self)
    have := nms_sum (ns := ns) fun u hu => h u (List.mem_cons_of_mem _ hu)
    simp
    omega
theorem nms_join {ns : List Str} (h : ∀ w ∈ ns, isNm w = true) (hl : ns.length ≤ 1000) : joinOk slash ns = true := by
  unfold joinOk
  have := nms_sum h
  rw [show slash.length = 1 from slash_len]
  exact decide_eq_true (by omega)
def grow (L : Pl) (T : Sto) : Pl := ⟨L.S ++ T, L.i, by have := L.h; rw [List.length_append]; omega⟩
theorem bg_app (L : Pl) (b : Bag) (T : Sto) : bg (grow L T) b = bg L b ++ T := by
  unfold bg grow
  dsimp only
  rw [List.set_append_left _ _ L.h]
end DL
set_option Elab.async false
set_option linter.all false
set_option maxRecDepth 100000
set_option maxHeartbeats 4000000
set_option autoImplicit false
namespace DL
open PySem PySem.Spec PyProof.Rows L2
/-! ### a package frozen -/
def pobj (C : Addr) (n : Nat) (es : List (Str × D)) : HotO := .obj C [("rows", .dic (kv es)), ("text", .str (showE es)), ("parts", .hot (n + 2)), ("sorts", .hot (n + 6))]
def partsD (es : List (Str × D)) : List (Key × D) := (.inr "", .lst (kidsP es "")) :: (foldsP es).map fun f => (.inr f, .lst (kidsP es f))
def sortsD (es : List (Str × D)) : List (Key × D) := [(.inr "file", .lst (sortsP es "file")), (.inr "folder", .lst (sortsP es "folder")), (.inr "reference", .lst (sortsP es "reference"))]
def fldsD (es : List (Str × D)) : List (Str × D) := [("rows", .dic (kv es)), ("text", .str (showE es)), ("parts", .dic (partsD es)), ("sorts", .dic (sortsD es))]
def pkgD (C : Addr) (es : List (Str × D)) : D := .obj C (fldsD es)
theorem sbL_strs {α : Type} (g : Nat → Option D) (f : α → Str) : ∀ l : List α, sbL g (l.map fun e => .str (f e)) = some (l.map fun e => .str (f e))
  | [] => rfl
  | x :: l => by
    show ((sbD g (.str (f x))).bind fun e => (sbL g (l.map fun e => .str (f e))).map (e :: ·)) = _
    rw [sbL_strs g f l]
    rfl
theorem sbL_kids (g : Nat → Option D) (es : List (Str × D)) (f : Str) : sbL g (kidsP es f) = some (kidsP es f) := sbL_strs g (fun e : Str × D => lastN e.1) _
theorem sbL_sorts (g : Nat → Option D) (es : List (Str × D)) (k : Str) : sbL g (sortsP es k) = some (sortsP es k) := sbL_strs g (fun e : Str × D => e.1) _
theorem frzP_lst {dk : Bool} {S' : Sto} {n f i : Nat} {l : List D} (hi : n ≤ i) (h : S'[i]? = some (.lst l)) (hl : ∀ g, sbL g l = some l) : frzI dk S' n (f + 1) i = some (.lst l) := by
  unfold frzI
  rw [if_neg (by omega), h]
  dsimp only
  rw [hl]
  rfl
theorem sb_items {g : Nat → Option D} : ∀ {es : List (Str × D)}, (∀ e ∈ es, okItem e.2 = true) → sbK g (kv es) = some (kv es)
  | [], _ => rfl
  | e :: es, h => by
    have h1 : sbD g e.2 = some e.2 := by
      have := h e List.mem_cons_self
      cases hd : e.2 <;> rw [hd] at this <;> first | (cases this; done) | rfl
    show ((sbD g e.2).bind fun x => (sbK g (kv es)).map (_ :: ·)) = _
    rw [h1, sb_items fun x hx => h x (List.mem_cons_of_mem _ hx)]
    rfl
theorem frz_idx {S' : Sto} {n f : Nat} {es : List (Str × D)} : ∀ (fs : List Str) (j : Nat), (∀ i x, fs[i]? = some x → S'[n + 7 + (j + i)]? = some (.lst (kidsP es x))) →
    sbK (frzI true S' n (f + 1)) (idxK n fs j) = some (fs.map fun x => (.inr x, .lst (kidsP es x)))
  | [], j, _ => rfl
  | x :: fs, j, h => by
    have h0 : S'[n + 7 + j]? = some (.lst (kidsP es x)) := h 0 x rfl
    show ((sbD (frzI true S' n (f + 1)) (.hot (n + 7 + j))).bind fun e => (sbK (frzI true S' n (f + 1)) (idxK n fs (j + 1))).map ((.inr x, e) :: ·)) = _
    rw [frz_idx fs (j + 1) fun i y hy => by rw [show j + 1 + i = j + (i + 1) by omega]; exact h (i + 1) y hy]
    show ((frzI true S' n (f + 1) (n + 7 + j)).bind _) = _
    rw [frzP_lst (by omega) h0 fun g => sbL_kids g es x]
    rfl
theorem stl_pkg {C : Addr} {S : Sto} {es : List (Str × D)} (hS : LowS S.length S) (hi : ∀ e ∈ es, okItem e.2 = true) :
    stlD true S.length (.ok (.hot S.length) (S ++ pobj C S.length es :: stP S.length es)) = .ok (pkgD C es) S := by
  have hat : ∀ k, (S ++ pobj C S.length es :: stP S.length es)[S.length + 1 + k]? = (stP S.length es)[k]? := at_store S _ _
  have h0 : (S ++ pobj C S.length es :: stP S.length es)[S.length]? = some (pobj C S.length es) := by
    rw [List.getElem?_append_right (Nat.le_refl _), Nat.sub_self]
    rfl
  obtain ⟨f, hf⟩ : ∃ f, (S ++ pobj C S.length es :: stP S.length es).length + 1 = f + 1 + 1 + 1 := ⟨(S ++ pobj C S.length es :: stP S.length es).length - 2, by
    rw [List.length_append, List.length_cons]
    have : 6 ≤ (stP S.length es).length := by unfold stP; simp
    omega⟩
  unfold stlD
  dsimp only
  rw [hf, List.take_left, sb_monoS upTo_frz S hS]
  generalize S ++ pobj C S.length es :: stP S.length es = S' at *
  have p1 : ∀ g, S'[S.length + 1]? = some (.lst (kidsP es "")) := fun g : Unit => hat 0
  have e1 := frzP_lst (dk := true) (n := S.length) (f := f) (Nat.le_succ _) (p1 ()) fun g => sbL_kids g es ""
  have e3 := frzP_lst (dk := true) (n := S.length) (f := f) (i := S.length + 3) (by omega) (show S'[S.length + 3]? = some (.lst (sortsP es "file")) from hat 2) fun g => sbL_sorts g es _
  have e4 := frzP_lst (dk := true) (n := S.length) (f := f) (i := S.length + 4) (by omega) (show S'[S.length + 4]? = some (.lst (sortsP es "folder")) from hat 3) fun g => sbL_sorts g es _
  have e5 := frzP_lst (dk := true) (n := S.length) (f := f) (i := S.length + 5) (by omega) (show S'[S.length + 5]? = some (.lst (sortsP es "reference")) from hat 4) fun g => sbL_sorts g es _
  have q2 : S'[S.length + 2]? = some (.dic (partsK S.length (foldsP es))) := hat 1
  have q6 : S'[S.length + 6]? = some (.dic (sortsK S.length)) := hat 5
  have ix := frz_idx (S' := S') (n := S.length) (f := f) (es := es) (foldsP es) 0 fun i x hx => by
    rw [show S.length + 7 + (0 + i) = S.length + 1 + (6 + i) by omega, hat]
    unfold stP
    rw [List.getElem?_append_right (by simp), show 6 + i - ([HotO.lst (kidsP es ""), .dic (partsK S.length (foldsP es)), .lst (sortsP es "file"), .lst (sortsP es "folder"), .lst (sortsP es "reference"), .dic (sortsK S.length)]).length = i by simp]
    rw [List.getElem?_map, hx]
    rfl
  have e2 : frzI true S' S.length (f + 1 + 1) (S.length + 2) = some (.dic (partsD es)) := by
    unfold frzI
    rw [if_neg (by omega), q2]
    show (if true = true then (sbK (frzI true S' S.length (f + 1)) (partsK S.length (foldsP es))).map D.dic else none) = _
    rw [if_pos rfl]
    show ((sbK (frzI true S' S.length (f + 1)) ((.inr "", .hot (S.length + 1)) :: idxK S.length (foldsP es) 0)).map D.dic) = _
    show ((((frzI true S' S.length (f + 1)) (S.length + 1)).bind fun e => (sbK (frzI true S' S.length (f + 1)) (idxK S.length (foldsP es) 0)).map ((.inr "", e) :: ·)).map D.dic) = _
    rw [e1, ix]
    rfl
  have e6 : frzI true S' S.length (f + 1 + 1) (S.length + 6) = some (.dic (sortsD es)) := by
    unfold frzI
    rw [if_neg (by omega), q6]
    show (if true = true then (sbK (frzI true S' S.length (f + 1)) (sortsK S.length)).map D.dic else none) = _
    rw [if_pos rfl]
    show ((((frzI true S' S.length (f + 1)) (S.length + 3)).bind fun e => (((frzI true S' S.length (f + 1)) (S.length + 4)).bind fun e => (((frzI true S' S.length (f + 1)) (S.length + 5)).bind fun e => (some []).map ((.inr "reference", e) :: ·)).map ((.inr "folder", e) :: ·)).map ((.inr "file", e) :: ·)).map D.dic) = _
    rw [e3, e4, e5]
    rfl
  have e0 : sbD (frzI true S' S.length (f + 1 + 1 + 1)) (.hot S.length) = some (pkgD C es) := by
    show frzI true S' S.length (f + 1 + 1 + 1) S.length = _
    rw [frzI]
    rw [if_neg (Nat.lt_irrefl _), h0]
    show ((((sbK (frzI true S' S.length (f + 1 + 1)) (kv es)).map D.dic).bind fun e => ((some (D.str (showE es))).bind fun e => (((frzI true S' S.length (f + 1 + 1)) (S.length + 2)).bind fun e => (((frzI true S' S.length (f + 1 + 1)) (S.length + 6)).bind fun e => (some []).map ((("sorts" : Str), e) :: ·)).map ((("parts" : Str), e) :: ·)).map ((("text" : Str), e) :: ·)).map ((("rows" : Str), e) :: ·)).map (D.obj C)) = _
    rw [sb_items hi, e2, e6]
    rfl
  rw [e0]
/-! ### closed texts, read by the kernel -/
def readN (t : Str) : Nat := match readE t with
  | .error i => i
  | .ok es => 1000 + es.length
def okT (t : Str) : Bool := decide (t.length ≤ 50000) && t.cps.toList.all (fun c => decide (c < 1114112)) && decide ((rowsT t).length ≤ 100)
theorem okT_is {t : Str} (h : okT t = true) : t.length ≤ 50000 ∧ sane t ∧ (rowsT t).length ≤ 100 := by
  unfold okT at h
  simp only [Bool.and_eq_true, decide_eq_true_eq, List.all_eq_true] at h
  exact ⟨h.1.1, h.1.2, h.2⟩
end DL
set_option Elab.async false
set_option linter.all false
set_option maxRecDepth 100000
set_option maxHeartbeats 4000000
set_option autoImplicit false
namespace DL
open PySem PySem.Spec PyProof.Rows L2
/-! ### the rows of a text that was joined -/
theorem spl_cat (s : Nat) : ∀ (x acc rest : List Nat), TL.spl [s] 0 acc (x ++ s :: rest) = TL.spl [s] 0 acc x ++ TL.spl [s] 0 [] rest
  | [], acc, rest => by
    have h : TL.pre [s] (s :: rest) = true := by simp [TL.pre]
    rw [List.nil_append, TL.spl_hit h, TL.spl_nil]
    rfl
  | c :: x, acc, rest => by
    by_cases e : c = s
    · subst e
      have h : ∀ r, TL.pre [c] (c :: r) = true := fun r => by simp [TL.pre]
      rw [List.cons_append, TL.spl_hit (h _), TL.spl_hit (h _)]
      show acc :: TL.spl [c] 0 [] (x ++ c :: rest) = (acc :: TL.spl [c] 0 [] x) ++ _
      rw [spl_cat c x [] rest]
      rfl
    · have h : ∀ r, TL.pre [s] (c :: r) = false := fun r => by simp [TL.pre]; exact fun z => e z
      rw [List.cons_append, TL.spl_miss (h _), TL.spl_miss (h _)]
      exact spl_cat s x _ rest
theorem spl_joinL (s : Nat) : ∀ (l : List (List Nat)), l ≠ [] → TL.spl [s] 0 [] (TL.joinL [s] l) = l.flatMap fun x => TL.spl [s] 0 [] x
  | [], h => absurd rfl h
  | [x], _ => by simp [TL.joinL]
  | x :: y :: r, _ => by
    show TL.spl [s] 0 [] (x ++ ([s] ++ TL.joinL [s] (y :: r))) = _
    rw [List.singleton_append, spl_cat, spl_joinL s (y :: r) (by simp)]
    rfl
theorem tl_inj : ∀ {l m : List Str}, l.map TL.tl = m.map TL.tl → l = m
  | [], [], _ => rfl
  | [], y :: m, h => by cases h
  | x :: l, [], h => by cases h
  | x :: l, y :: m, h => by
    rw [List.map_cons, List.map_cons] at h
    injection h with h1 h2
    rw [TL.ext_tl h1, tl_inj h2]
theorem split_join {b : Str} {s : Nat} (hb : TL.tl b = [s]) (hk : b.cps.all (· < 256) = true) {l : List Str} (hl : l ≠ []) : Txt.split (Txt.join b l) b = l.flatMap fun r => Txt.split r b := by
  have sp : ∀ a, (Txt.split a b).map TL.tl = TL.spl [s] 0 [] (TL.tl a) := fun a => by
    have := TL.split_spl a b (by rw [hb]; simp) (TL.kind_ok hk)
    rwa [hb] at this
  apply tl_inj
  rw [sp, TL.join_eq, TL.tl_join, hb, spl_joinL s _ (by simpa using hl), List.flatMap_map, List.map_flatMap]
  congr 1
  funext a
  exact (sp a).symm
theorem nl_tl : TL.tl (Str.ofString "\n") = [10] := by decide +kernel
theorem rows_join {l : List Str} (hl : l ≠ []) : Txt.split (Txt.join "\n" l) "\n" = l.flatMap fun r => Txt.split r "\n" := split_join (s := 10) nl_tl (by decide +kernel) hl
theorem join_sane {l : List Str} (h : ∀ r ∈ l, sane r) : sane (Txt.join "\n" l) := by
  intro c hc
  have hc : c ∈ TL.tl (Txt.join "\n" l) := hc
  rw [TL.join_eq, TL.tl_join] at hc
  rcases joinL_mem hc with q | ⟨x, hx, q⟩
  · have : ∀ c ∈ TL.tl (Str.ofString "\n"), c < 1114112 := by decide +kernel
    exact this c q
  · obtain ⟨w, hw, rfl⟩ := List.mem_map.mp hx
    exact h w hw c q
theorem join_short {l : List Str} {n : Nat} (h : ∀ r ∈ l, r.length ≤ n) : (Txt.join "\n" l).length ≤ l.length * (n + 1) := by
  rw [← tl_len, TL.join_eq, TL.tl_join]
  have := joinL_len (a := TL.tl (Str.ofString "\n")) (l := l.map TL.tl) (n := n) fun x hx => by
    obtain ⟨w, hw, rfl⟩ := List.mem_map.mp hx
    rw [tl_len]
    exact h w hw
  rw [nl_tl, List.length_map] at this
  rw [nl_tl]
  exact this
theorem joinOk_small {l : List Str} {n : Nat} (h : ∀ r ∈ l, r.length ≤ n) (hl : l.length * (n + 1) ≤ 100000) : joinOk "\n" l = true := by
  have h1 : (l.map (·.length)).sum ≤ l.length * n := sum_le _ n l h
  have h2 : (Str.ofString "\n").length = 1 := by decide +kernel
  unfold joinOk
  rw [Nat.mul_add, Nat.mul_one] at hl
  simp [h2]
  omega
/-- reading stops at the first wrong row -/
theorem read_more : ∀ {rows more : List Str} {k : Nat} {es : List (Str × D)} {last : Str} {i : Nat}, readL rows k es last = .error i → readL (rows ++ more) k es last = .error i
  | [], more, k, es, last, i, h => by cases h
  | r :: rows, more, k, es, last, i, h => by
    rw [List.cons_append]
    unfold readL at h ⊢
    split
    · rename_i q; rw [q] at h; exact h
    · rename_i e q
      rw [q] at h
      dsimp only at h
      split
      · rename_i g; rw [if_pos g] at h; exact read_more h
      · rename_i g; rw [if_neg g] at h; exact h
end DL
set_option Elab.async false
set_option linter.all false
set_option maxRecDepth 100000
set_option maxHeartbeats 4000000
set_option autoImplicit false
namespace DL
open PySem PySem.Spec PyProof.Rows L2
/-! ### plain facts of k01 -/
def okS (z : Str) : Bool := decide (z.length ≤ 3000) && z.cps.toList.all fun c => decide (c < 128)
theorem okS_is {z : Str} (h : okS z = true) : z.length ≤ 3000 ∧ (∀ c ∈ z.cps.toList, c < 128) := by
  unfold okS at h
  rw [Bool.and_eq_true, decide_eq_true_eq, List.all_eq_true] at h
  exact ⟨h.1, fun c hc => of_decide_eq_true (h.2 c hc)⟩
theorem okS_of {z : Str} (h : z.length ≤ 3000) (h2 : ∀ c ∈ z.cps.toList, c < 128) : okS z = true := by
  unfold okS
  rw [Bool.and_eq_true, decide_eq_true_eq, List.all_eq_true]
  exact ⟨h, fun c hc => decide_eq_true (h2 c hc)⟩
theorem okS_sane {z : Str} (h : okS z = true) : sane z := fun c hc => by have := (okS_is h).2 c hc; omega
theorem tl_cps (z : Str) : TL.tl z = z.cps.toList := rfl
theorem okS_app {x y : Str} (hx : okS x = true) (hy : okS y = true) (h : x.length + y.length ≤ 3000) : okS (x ++ y) = true := by
  refine okS_of (by rw [app_len]; exact h) fun c hc => ?_
  have hc : c ∈ TL.tl (x ++ y) := hc
  rw [TL.tl_append] at hc
  rcases List.mem_append.mp hc with q | q
  · exact (okS_is hx).2 c q
  · exact (okS_is hy).2 c q
theorem reprS_len {z : Str} (h : sane z) : (reprText z).length ≤ 10 * z.length + 2 := StrLaws.reprText_len z fun c hc => Nat.lt_of_lt_of_le (h c hc) (by decide)
/-- a pair of texts is shown -/
theorem show_ss {x z : Str} (hx : sane x) (lx : x.length ≤ 3000) (hz : sane z) (lz : z.length ≤ 3000) : okShow (.tuple [.str x, .str z]) = true := by
  have h1 := reprS_len hx
  have h2 := reprS_len hz
  have hl : (tupleText [reprText x, reprText z]).length ≤ 60100 := by
    have e : tupleText [reprText x, reprText z] = Str.ofString "(" ++ (reprText x ++ Str.ofString ", " ++ reprText z) ++ Str.ofString ")" := rfl
    have l1 : (Str.ofString "(").length = 1 := by decide +kernel
    have l2 : (Str.ofString ", ").length = 2 := by decide +kernel
    have l3 : (Str.ofString ")").length = 1 := by decide +kernel
    rw [e, app_len, app_len, app_len, app_len, l1, l2, l3]
    omega
  unfold okShow
  simp [PyData.showable, PyData.showableAll, PyData.hasDict, PyData.hasDictAll, PyData.depth, PyData.depthAll, PyData.shown, PyData.shownAll]
  refine decide_eq_true ?_
  show _ ≤ 2 ^ 24
  omega

theorem showable_strs : ∀ l : List Str, PyData.showableAll (l.map PyData.str) = true
  | [] => rfl
  | x :: l => by simp [PyData.showableAll, PyData.showable, showable_strs l]
theorem nodict_strs : ∀ l : List Str, PyData.hasDictAll (l.map PyData.str) = false
  | [] => rfl
  | x :: l => by simp [PyData.hasDictAll, PyData.hasDict, nodict_strs l]
theorem shown_strs : ∀ l : List Str, PyData.shownAll (l.map PyData.str) = l.map reprText
  | [] => rfl
  | x :: l => by simp [PyData.shownAll, PyData.shown, shown_strs l]
theorem piled_le : ∀ {l : List Str}, (∀ s ∈ l, s.length ≤ 1002) → piled l ≤ l.length * 1004
  | [], _ => by simp [piled]
  | x :: l, h => by
    have := h x (by simp)
    have ih := piled_le fun s hs => h s (List.mem_cons_of_mem _ hs)
    rw [piled_cons, List.length_cons]
    omega
/-- a list of one tuple of texts is shown -/
theorem show_lt {l : List Str} (h : ∀ s ∈ l, sane s ∧ s.length ≤ 100) (hl : l.length ≤ 4000) : okShow (.list [.tuple (l.map .str)]) = true := by
  have hp : piled (l.map reprText) ≤ l.length * 1004 := by
    have := piled_le (l := l.map reprText) fun s hs => by
      obtain ⟨w, hw, rfl⟩ := List.mem_map.mp hs
      have := reprS_len (h w hw).1
      have := (h w hw).2
      omega
    rwa [List.length_map] at this
  have hj : (Str.join ", " (l.map reprText)).length ≤ l.length * 1004 := by
    by_cases hn : l.map reprText = []
    · rw [hn]; exact Nat.zero_le _
    · have := join_length_add _ hn
      omega
  have ht : (tupleText (l.map reprText)).length ≤ l.length * 1004 + 3 := by
    unfold tupleText
    rw [strLen_append, strLen_append]
    have e1 : ("(" : Str).length = 1 := by decide +kernel
    have e2 : ∀ b : Bool, ((if b = true then ",)" else ")" : String) : Str).length ≤ 2 := by decide +kernel
    have := e2 ((l.map reprText).length == 1)
    omega
  have hL : (listText [tupleText (l.map reprText)]).length ≤ l.length * 1004 + 10 := by
    have e : listText [tupleText (l.map reprText)] = Str.ofString "[" ++ tupleText (l.map reprText) ++ Str.ofString "]" := rfl
    have l1 : (Str.ofString "[").length = 1 := by decide +kernel
    have l3 : (Str.ofString "]").length = 1 := by decide +kernel
    rw [e, app_len, app_len, l1, l3]
    omega
  unfold okShow
  simp [PyData.showable, PyData.showableAll, PyData.hasDict, PyData.hasDictAll, PyData.depth, PyData.depthAll, PyData.shown, PyData.shownAll, showable_strs, nodict_strs, depth_strs, shown_strs]
  show _ ≤ 2 ^ 24
  omega
end DL
set_option Elab.async false
set_option linter.all false
set_option maxRecDepth 100000
set_option maxHeartbeats 4000000
set_option autoImplicit false
namespace KL
open PySem PySem.Spec PyProof.Rows L2 DL
def topS (i : Nat) : Stmt := PySem.Challenge.pw_linkfarms_k01_names_and_paths_of_any_val.main.body.getD i (.Pass ⟨0, 0, 0, 0⟩)
abbrev s__wall : Stmt := topS 0
theorem sc__wall : FnScope ["k"] ["k"] (defScope s__wall) := ⟨rfl, rfl, rfl, by decide +kernel, rfl, by decide +kernel, by decide +kernel⟩
abbrev s_is_name : Stmt := topS 15
theorem sc_is_name : FnScope ["thing", "sign"] ["thing"] (defScope s_is_name) := ⟨rfl, rfl, rfl, by decide +kernel, rfl, by decide +kernel, by decide +kernel⟩
abbrev s_is_path : Stmt := topS 16
theorem sc_is_path : FnScope ["thing", "name"] ["thing"] (defScope s_is_path) := ⟨rfl, rfl, rfl, by decide +kernel, rfl, by decide +kernel, by decide +kernel⟩
abbrev s_look_path : Stmt := topS 17
theorem sc_look_path : FnScope ["path"] ["path"] (defScope s_look_path) := ⟨rfl, rfl, rfl, by decide +kernel, rfl, by decide +kernel, by decide +kernel⟩
abbrev s_names_in : Stmt := topS 18
theorem sc_names_in : FnScope ["path"] ["path"] (defScope s_names_in) := ⟨rfl, rfl, rfl, by decide +kernel, rfl, by decide +kernel, by decide +kernel⟩
abbrev s_names_of : Stmt := topS 19
theorem sc_names_of : FnScope ["path"] ["path"] (defScope s_names_of) := ⟨rfl, rfl, rfl, by decide +kernel, rfl, by decide +kernel, by decide +kernel⟩
abbrev s_parent_in : Stmt := topS 20
theorem sc_parent_in : FnScope ["path"] ["path"] (defScope s_parent_in) := ⟨rfl, rfl, rfl, by decide +kernel, rfl, by decide +kernel, by decide +kernel⟩
abbrev s_path_key : Stmt := topS 21
theorem sc_path_key : FnScope ["path", "names"] ["path"] (defScope s_path_key) := ⟨rfl, rfl, rfl, by decide +kernel, rfl, by decide +kernel, by decide +kernel⟩
abbrev s_in_order : Stmt := topS 22
theorem sc_in_order : FnScope ["paths"] ["paths"] (defScope s_in_order) := ⟨rfl, rfl, rfl, by decide +kernel, rfl, by decide +kernel, by decide +kernel⟩
abbrev s_path_word : Stmt := topS 25
theorem sc_path_word : FnScope ["path"] ["path"] (defScope s_path_word) := ⟨rfl, rfl, rfl, by decide +kernel, rfl, by decide +kernel, by decide +kernel⟩
abbrev s_row_of : Stmt := topS 26
theorem sc_row_of : FnScope ["path", "item"] ["path", "item"] (defScope s_row_of) := ⟨rfl, rfl, rfl, by decide +kernel, rfl, by decide +kernel, by decide +kernel⟩
abbrev s_show_entries : Stmt := topS 27
theorem sc_show_entries : FnScope ["entries", "path", "item"] ["entries"] (defScope s_show_entries) := ⟨rfl, rfl, rfl, by decide +kernel, rfl, by decide +kernel, by decide +kernel⟩
abbrev s_is_integer : Stmt := topS 35
theorem sc_is_integer : FnScope ["thing"] ["thing"] (defScope s_is_integer) := ⟨rfl, rfl, rfl, by decide +kernel, rfl, by decide +kernel, by decide +kernel⟩
abbrev s_is_content : Stmt := topS 36
theorem sc_is_content : FnScope ["thing"] ["thing"] (defScope s_is_content) := ⟨rfl, rfl, rfl, by decide +kernel, rfl, by decide +kernel, by decide +kernel⟩
abbrev s_is_target : Stmt := topS 37
theorem sc_is_target : FnScope ["thing"] ["thing"] (defScope s_is_target) := ⟨rfl, rfl, rfl, by decide +kernel, rfl, by decide +kernel, by decide +kernel⟩
abbrev s_is_entry_path : Stmt := topS 38
theorem sc_is_entry_path : FnScope ["thing"] ["thing"] (defScope s_is_entry_path) := ⟨rfl, rfl, rfl, by decide +kernel, rfl, by decide +kernel, by decide +kernel⟩
abbrev s_kind_of : Stmt := topS 39
theorem sc_kind_of : FnScope ["item"] ["item"] (defScope s_kind_of) := ⟨rfl, rfl, rfl, by decide +kernel, rfl, by decide +kernel, by decide +kernel⟩
abbrev s_beginnings : Stmt := topS 40
theorem sc_beginnings : FnScope ["path", "names", "many"] ["path"] (defScope s_beginnings) := ⟨rfl, rfl, rfl, by decide +kernel, rfl, by decide +kernel, by decide +kernel⟩
abbrev s_look_entries : Stmt := topS 41
theorem sc_look_entries : FnScope ["entries", "key", "path", "item", "start"] ["entries"] (defScope s_look_entries) := ⟨rfl, rfl, rfl, by decide +kernel, rfl, by decide +kernel, by decide +kernel⟩
abbrev s_completed : Stmt := topS 42
theorem sc_completed : FnScope ["entries", "paths", "path", "start"] ["entries"] (defScope s_completed) := ⟨rfl, rfl, rfl, by decide +kernel, rfl, by decide +kernel, by decide +kernel⟩
abbrev s__law_bag : Stmt := topS 45
theorem sc__law_bag : FnScope ["_law_script", "_law_at", "_law_cell", "_law_digits"] ["_law_script", "_law_at"] (defScope s__law_bag) := ⟨rfl, rfl, rfl, by decide +kernel, rfl, by decide +kernel, by decide +kernel⟩
abbrev s__law_take : Stmt := topS 46
theorem sc__law_take : FnScope ["_law_bag_here", "_law_many", "_law_digit"] ["_law_bag_here", "_law_many"] (defScope s__law_take) := ⟨rfl, rfl, rfl, by decide +kernel, rfl, by decide +kernel, by decide +kernel⟩
abbrev s__law_pick : Stmt := topS 47
theorem sc__law_pick : FnScope ["_law_bag_here", "_law_some"] ["_law_bag_here", "_law_some"] (defScope s__law_pick) := ⟨rfl, rfl, rfl, by decide +kernel, rfl, by decide +kernel, by decide +kernel⟩
abbrev s__law_is_name : Stmt := topS 48
theorem sc__law_is_name : FnScope ["_law_thing", "_law_sign"] ["_law_thing"] (defScope s__law_is_name) := ⟨rfl, rfl, rfl, by decide +kernel, rfl, by decide +kernel, by decide +kernel⟩
abbrev s__law_is_path : Stmt := topS 49
theorem sc__law_is_path : FnScope ["_law_thing", "_law_bits", "_law_part"] ["_law_thing"] (defScope s__law_is_path) := ⟨rfl, rfl, rfl, by decide +kernel, rfl, by decide +kernel, by decide +kernel⟩
abbrev s__law_text : Stmt := topS 50
theorem sc__law_text : FnScope ["_law_bag_here", "_law_signs", "_law_text_here", "_law_k"] ["_law_bag_here"] (defScope s__law_text) := ⟨rfl, rfl, rfl, by decide +kernel, rfl, by decide +kernel, by decide +kernel⟩
abbrev s__law_others : Stmt := topS 51
theorem sc__law_others : FnScope ["_law_bag_here", "_law_letter", "_law_words", "_law_longs", "_law_rest"] ["_law_bag_here"] (defScope s__law_others) := ⟨rfl, rfl, rfl, by decide +kernel, rfl, by decide +kernel, by decide +kernel⟩
abbrev s__law_told : Stmt := topS 52
theorem sc__law_told : FnScope ["_law_thing", "e", "_law_own"] ["_law_thing"] (defScope s__law_told) := ⟨rfl, rfl, rfl, by decide +kernel, rfl, by decide +kernel, by decide +kernel⟩
abbrev s__law_right : Stmt := topS 53
theorem sc__law_right : FnScope ["_law_thing", "_law_part"] ["_law_thing"] (defScope s__law_right) := ⟨rfl, rfl, rfl, by decide +kernel, rfl, by decide +kernel, by decide +kernel⟩
abbrev s_law : Stmt := topS 54
theorem sc_law : FnScope ["_law_script", "_law_at", "_law_bag_here", "_law_turn"] ["_law_script"] (defScope s_law) := ⟨rfl, rfl, rfl, by decide +kernel, rfl, by decide +kernel, by decide +kernel⟩
abbrev s_Package___init__ : Stmt := (clsBody (topS 43)).getD 1 (.Pass ⟨0, 0, 0, 0⟩)
theorem sc_Package___init__ : FnScope ["self", "entries", "given", "path", "item"] ["self", "entries"] (defScope s_Package___init__) := ⟨rfl, rfl, rfl, by decide +kernel, rfl, by decide +kernel, by decide +kernel⟩
abbrev s_Package___repr__ : Stmt := (clsBody (topS 43)).getD 19 (.Pass ⟨0, 0, 0, 0⟩)
theorem sc_Package___repr__ : FnScope ["self", "files", "folders", "references", "kind"] ["self"] (defScope s_Package___repr__) := ⟨rfl, rfl, rfl, by decide +kernel, rfl, by decide +kernel, by decide +kernel⟩
structure Ad where
  _wall : Addr
  fd__wall : FuncData
  is_name : Addr
  fd_is_name : FuncData
  is_path : Addr
  fd_is_path : FuncData
  look_path : Addr
  fd_look_path : FuncData
  names_in : Addr
  fd_names_in : FuncData
  names_of : Addr
  fd_names_of : FuncData
  parent_in : Addr
  fd_parent_in : FuncData
  path_key : Addr
  fd_path_key : FuncData
  in_order : Addr
  fd_in_order : FuncData
  path_word : Addr
  fd_path_word : FuncData
  row_of : Addr
  fd_row_of : FuncData
  show_entries : Addr
  fd_show_entries : FuncData
  is_integer : Addr
  fd_is_integer : FuncData
  is_content : Addr
  fd_is_content : FuncData
  is_target : Addr
  fd_is_target : FuncData
  is_entry_path : Addr
  fd_is_entry_path : FuncData
  kind_of : Addr
  fd_kind_of : FuncData
  beginnings : Addr
  fd_beginnings : FuncData
  look_entries : Addr
  fd_look_entries : FuncData
  completed : Addr
  fd_completed : FuncData
  _law_bag : Addr
  fd__law_bag : FuncData
  _law_take : Addr
  fd__law_take : FuncData
  _law_pick : Addr
  fd__law_pick : FuncData
  _law_is_name : Addr
  fd__law_is_name : FuncData
  _law_is_path : Addr
  fd__law_is_path : FuncData
  _law_text : Addr
  fd__law_text : FuncData
  _law_others : Addr
  fd__law_others : FuncData
  _law_told : Addr
  fd__law_told : FuncData
  _law_right : Addr
  fd__law_right : FuncData
  law : Addr
  fd_law : FuncData
  Package___init__ : Addr
  fd_Package___init__ : FuncData
  Package___repr__ : Addr
  fd_Package___repr__ : FuncData
  C_Package : Addr
  t_Package_LIMIT : Tok
  t_LETTERS : Tok
  t_MOST_LETTERS : Tok
  t_ROOT : Tok
  t_ROOT_WORD : Tok
  t_FILE : Tok
  t_FOLDER : Tok
  t_REFERENCE : Tok
  t_MOST_ENTRY_NAMES : Tok
  t_MOST_TARGET_NAMES : Tok
  t_MOST_CONTENT : Tok
  C_BadPath : Addr
  C_BadName : Addr
  C_BadEntry : Addr
  C_BadText : Addr
  C_TooMany : Addr
def isiT (A : Ad) : D → D → Option Bool := fun t c => match t, c with
  | .ty a, .ty b => kitB a b
  | .cls C, .ty b => if C = A.C_Package ∧ b ∈ (["str", "int", "bool", "dict", "tuple", "list", "NoneType"] : List String) then some false else none
  | .ty a, .cls C => if C = A.C_Package ∧ a ∈ (["str", "int", "bool", "dict", "tuple", "list", "NoneType"] : List String) then some false else none
  | .cls C, .cls C2 => if C = A.C_Package ∧ C2 = A.C_Package then some true else none
  | _, _ => none
structure Txt (P : Program) (w : World) (K : PySem.W.Frag) (mg : Str → Option Value) (base : Heap) (A : Ad) : Prop where
  F__wall : Fun K "_wall" "_wall" s__wall A._wall A.fd__wall
  g__wall : mg "_wall" = some (.ref A._wall)
  k__wall : PySem.W.keepIn K (.ref A._wall) = true
  b__wall : Binds K A.fd__wall ["k"] []
  F_is_name : Fun K "is_name" "is_name" s_is_name A.is_name A.fd_is_name
  g_is_name : mg "is_name" = some (.ref A.is_name)
  k_is_name : PySem.W.keepIn K (.ref A.is_name) = true
  b_is_name : Binds K A.fd_is_name ["thing"] []
  F_is_path : Fun K "is_path" "is_path" s_is_path A.is_path A.fd_is_path
  g_is_path : mg "is_path" = some (.ref A.is_path)
  k_is_path : PySem.W.keepIn K (.ref A.is_path) = true
  b_is_path : Binds K A.fd_is_path ["thing"] []
  F_look_path : Fun K "look_path" "look_path" s_look_path A.look_path A.fd_look_path
  g_look_path : mg "look_path" = some (.ref A.look_path)
  k_look_path : PySem.W.keepIn K (.ref A.look_path) = true
  b_look_path : Binds K A.fd_look_path ["path"] []
  F_names_in : Fun K "names_in" "names_in" s_names_in A.names_in A.fd_names_in
  g_names_in : mg "names_in" = some (.ref A.names_in)
  k_names_in : PySem.W.keepIn K (.ref A.names_in) = true
  b_names_in : Binds K A.fd_names_in ["path"] []
  F_names_of : Fun K "names_of" "names_of" s_names_of A.names_of A.fd_names_of
  g_names_of : mg "names_of" = some (.ref A.names_of)
  k_names_of : PySem.W.keepIn K (.ref A.names_of) = true
  b_names_of : Binds K A.fd_names_of ["path"] []
  F_parent_in : Fun K "parent_in" "parent_in" s_parent_in A.parent_in A.fd_parent_in
  g_parent_in : mg "parent_in" = some (.ref A.parent_in)
  k_parent_in : PySem.W.keepIn K (.ref A.parent_in) = true
  b_parent_in : Binds K A.fd_parent_in ["path"] []
  F_path_key : Fun K "path_key" "path_key" s_path_key A.path_key A.fd_path_key
  g_path_key : mg "path_key" = some (.ref A.path_key)
  k_path_key : PySem.W.keepIn K (.ref A.path_key) = true
  b_path_key : Binds K A.fd_path_key ["path"] []
  F_in_order : Fun K "in_order" "in_order" s_in_order A.in_order A.fd_in_order
  g_in_order : mg "in_order" = some (.ref A.in_order)
  k_in_order : PySem.W.keepIn K (.ref A.in_order) = true
  b_in_order : Binds K A.fd_in_order ["paths"] []
  F_path_word : Fun K "path_word" "path_word" s_path_word A.path_word A.fd_path_word
  g_path_word : mg "path_word" = some (.ref A.path_word)
  k_path_word : PySem.W.keepIn K (.ref A.path_word) = true
  b_path_word : Binds K A.fd_path_word ["path"] []
  F_row_of : Fun K "row_of" "row_of" s_row_of A.row_of A.fd_row_of
  g_row_of : mg "row_of" = some (.ref A.row_of)
  k_row_of : PySem.W.keepIn K (.ref A.row_of) = true
  b_row_of : Binds K A.fd_row_of ["path", "item"] []
  F_show_entries : Fun K "show_entries" "show_entries" s_show_entries A.show_entries A.fd_show_entries
  g_show_entries : mg "show_entries" = some (.ref A.show_entries)
  k_show_entries : PySem.W.keepIn K (.ref A.show_entries) = true
  b_show_entries : Binds K A.fd_show_entries ["entries"] []
  F_is_integer : Fun K "is_integer" "is_integer" s_is_integer A.is_integer A.fd_is_integer
  g_is_integer : mg "is_integer" = some (.ref A.is_integer)
  k_is_integer : PySem.W.keepIn K (.ref A.is_integer) = true
  b_is_integer : Binds K A.fd_is_integer ["thing"] []
  F_is_content : Fun K "is_content" "is_content" s_is_content A.is_content A.fd_is_content
  g_is_content : mg "is_content" = some (.ref A.is_content)
  k_is_content : PySem.W.keepIn K (.ref A.is_content) = true
  b_is_content : Binds K A.fd_is_content ["thing"] []
  F_is_target : Fun K "is_target" "is_target" s_is_target A.is_target A.fd_is_target
  g_is_target : mg "is_target" = some (.ref A.is_target)
  k_is_target : PySem.W.keepIn K (.ref A.is_target) = true
  b_is_target : Binds K A.fd_is_target ["thing"] []
  F_is_entry_path : Fun K "is_entry_path" "is_entry_path" s_is_entry_path A.is_entry_path A.fd_is_entry_path
  g_is_entry_path : mg "is_entry_path" = some (.ref A.is_entry_path)
  k_is_entry_path : PySem.W.keepIn K (.ref A.is_entry_path) = true
  b_is_entry_path : Binds K A.fd_is_entry_path ["thing"] []
  F_kind_of : Fun K "kind_of" "kind_of" s_kind_of A.kind_of A.fd_kind_of
  g_kind_of : mg "kind_of" = some (.ref A.kind_of)
  k_kind_of : PySem.W.keepIn K (.ref A.kind_of) = true
  b_kind_of : Binds K A.fd_kind_of ["item"] []
  F_beginnings : Fun K "beginnings" "beginnings" s_beginnings A.beginnings A.fd_beginnings
  g_beginnings : mg "beginnings" = some (.ref A.beginnings)
  k_beginnings : PySem.W.keepIn K (.ref A.beginnings) = true
  b_beginnings : Binds K A.fd_beginnings ["path"] []
  F_look_entries : Fun K "look_entries" "look_entries" s_look_entries A.look_entries A.fd_look_entries
  g_look_entries : mg "look_entries" = some (.ref A.look_entries)
  k_look_entries : PySem.W.keepIn K (.ref A.look_entries) = true
  b_look_entries : Binds K A.fd_look_entries ["entries"] []
  F_completed : Fun K "completed" "completed" s_completed A.completed A.fd_completed
  g_completed : mg "completed" = some (.ref A.completed)
  k_completed : PySem.W.keepIn K (.ref A.completed) = true
  b_completed : Binds K A.fd_completed ["entries"] []
  F__law_bag : Fun K "_law_bag" "_law_bag" s__law_bag A._law_bag A.fd__law_bag
  g__law_bag : mg "_law_bag" = some (.ref A._law_bag)
  k__law_bag : PySem.W.keepIn K (.ref A._law_bag) = true
  b__law_bag : Binds K A.fd__law_bag ["_law_script", "_law_at"] []
  F__law_take : Fun K "_law_take" "_law_take" s__law_take A._law_take A.fd__law_take
  g__law_take : mg "_law_take" = some (.ref A._law_take)
  k__law_take : PySem.W.keepIn K (.ref A._law_take) = true
  b__law_take : Binds K A.fd__law_take ["_law_bag_here", "_law_many"] []
  F__law_pick : Fun K "_law_pick" "_law_pick" s__law_pick A._law_pick A.fd__law_pick
  g__law_pick : mg "_law_pick" = some (.ref A._law_pick)
  k__law_pick : PySem.W.keepIn K (.ref A._law_pick) = true
  b__law_pick : Binds K A.fd__law_pick ["_law_bag_here", "_law_some"] []
  F__law_is_name : Fun K "_law_is_name" "_law_is_name" s__law_is_name A._law_is_name A.fd__law_is_name
  g__law_is_name : mg "_law_is_name" = some (.ref A._law_is_name)
  k__law_is_name : PySem.W.keepIn K (.ref A._law_is_name) = true
  b__law_is_name : Binds K A.fd__law_is_name ["_law_thing"] []
  F__law_is_path : Fun K "_law_is_path" "_law_is_path" s__law_is_path A._law_is_path A.fd__law_is_path
  g__law_is_path : mg "_law_is_path" = some (.ref A._law_is_path)
  k__law_is_path : PySem.W.keepIn K (.ref A._law_is_path) = true
  b__law_is_path : Binds K A.fd__law_is_path ["_law_thing"] []
  F__law_text : Fun K "_law_text" "_law_text" s__law_text A._law_text A.fd__law_text
  g__law_text : mg "_law_text" = some (.ref A._law_text)
  k__law_text : PySem.W.keepIn K (.ref A._law_text) = true
  b__law_text : Binds K A.fd__law_text ["_law_bag_here"] []
  F__law_others : Fun K "_law_others" "_law_others" s__law_others A._law_others A.fd__law_others
  g__law_others : mg "_law_others" = some (.ref A._law_others)
  k__law_others : PySem.W.keepIn K (.ref A._law_others) = true
  b__law_others : Binds K A.fd__law_others ["_law_bag_here"] []
  F__law_told : Fun K "_law_told" "_law_told" s__law_told A._law_told A.fd__law_told
  g__law_told : mg "_law_told" = some (.ref A._law_told)
  k__law_told : PySem.W.keepIn K (.ref A._law_told) = true
  b__law_told : Binds K A.fd__law_told ["_law_thing"] []
  F__law_right : Fun K "_law_right" "_law_right" s__law_right A._law_right A.fd__law_right
  g__law_right : mg "_law_right" = some (.ref A._law_right)
  k__law_right : PySem.W.keepIn K (.ref A._law_right) = true
  b__law_right : Binds K A.fd__law_right ["_law_thing"] []
  F_law : Fun K "law" "law" s_law A.law A.fd_law
  g_law : mg "law" = some (.ref A.law)
  k_law : PySem.W.keepIn K (.ref A.law) = true
  b_law : Binds K A.fd_law ["_law_script"] []
  F_Package___init__ : FunT K "__init__" "Package.__init__" s_Package___init__ [.non] A.Package___init__ A.fd_Package___init__
  b_Package___init__ : Binds K A.fd_Package___init__ ["self", "entries"] []
  bd_Package___init__ : Binds K A.fd_Package___init__ ["self", "entries"] [.none]
  me_Package___init__ : Meth K A.C_Package "__init__" A.Package___init__
  F_Package___repr__ : FunT K "__repr__" "Package.__repr__" s_Package___repr__ [] A.Package___repr__ A.fd_Package___repr__
  b_Package___repr__ : Binds K A.fd_Package___repr__ ["self"] []
  me_Package___repr__ : Meth K A.C_Package "__repr__" A.Package___repr__
  g_Package : mg "Package" = some (.ref A.C_Package)
  cl_Package : Cls K A.C_Package
  ic_Package : IsiC K A.C_Package
  cr_Package : ClX.CRead K A.C_Package (.type "type")
  mk_Package : Mk K A.C_Package A.Package___init__
  na_Package_rows : NoAttr K A.C_Package "rows"
  na_Package_text : NoAttr K A.C_Package "text"
  na_Package_parts : NoAttr K A.C_Package "parts"
  na_Package_sorts : NoAttr K A.C_Package "sorts"
  cv_Package_LIMIT : ClX.CVal K A.C_Package (.type "type") "LIMIT" (.int 40) (.int 40 A.t_Package_LIMIT)
  g_LETTERS : mg "LETTERS" = some (.str "abcdefghijklmnopqrstuvwxyz" A.t_LETTERS)
  g_MOST_LETTERS : mg "MOST_LETTERS" = some (.int 8 A.t_MOST_LETTERS)
  g_ROOT : mg "ROOT" = some (.str "" A.t_ROOT)
  g_ROOT_WORD : mg "ROOT_WORD" = some (.str "." A.t_ROOT_WORD)
  g_FILE : mg "FILE" = some (.str "file" A.t_FILE)
  g_FOLDER : mg "FOLDER" = some (.str "folder" A.t_FOLDER)
  g_REFERENCE : mg "REFERENCE" = some (.str "reference" A.t_REFERENCE)
  g_MOST_ENTRY_NAMES : mg "MOST_ENTRY_NAMES" = some (.int 10 A.t_MOST_ENTRY_NAMES)
  g_MOST_TARGET_NAMES : mg "MOST_TARGET_NAMES" = some (.int 8 A.t_MOST_TARGET_NAMES)
  g_MOST_CONTENT : mg "MOST_CONTENT" = some (.int 999999999999 A.t_MOST_CONTENT)
  xf_BadPath : XfC K A.C_BadPath
  xe_BadPath : ExcC K A.C_BadPath
  xm_BadPath : PySem.W.exmOne K (.ref A.C_BadPath) (.ref A.C_BadPath) = some true
  xn_BadPath_path : PySem.W.findIn K (.ref A.C_BadPath) "path" = some none
  x_BadPath : XCls P w K mg base "BadPath" A.C_BadPath ["path"]
  xf_BadName : XfC K A.C_BadName
  xe_BadName : ExcC K A.C_BadName
  xm_BadName : PySem.W.exmOne K (.ref A.C_BadName) (.ref A.C_BadName) = some true
  xn_BadName_name : PySem.W.findIn K (.ref A.C_BadName) "name" = some none
  x_BadName : XCls P w K mg base "BadName" A.C_BadName ["name"]
  xf_BadEntry : XfC K A.C_BadEntry
  xe_BadEntry : ExcC K A.C_BadEntry
  xm_BadEntry : PySem.W.exmOne K (.ref A.C_BadEntry) (.ref A.C_BadEntry) = some true
  xn_BadEntry_path : PySem.W.findIn K (.ref A.C_BadEntry) "path" = some none
  x_BadEntry : XCls P w K mg base "BadEntry" A.C_BadEntry ["path"]
  xf_BadText : XfC K A.C_BadText
  xe_BadText : ExcC K A.C_BadText
  xm_BadText : PySem.W.exmOne K (.ref A.C_BadText) (.ref A.C_BadText) = some true
  xn_BadText_row : PySem.W.findIn K (.ref A.C_BadText) "row" = some none
  x_BadText : XCls P w K mg base "BadText" A.C_BadText ["row"]
  xf_TooMany : XfC K A.C_TooMany
  xe_TooMany : ExcC K A.C_TooMany
  xm_TooMany : PySem.W.exmOne K (.ref A.C_TooMany) (.ref A.C_TooMany) = some true
  xn_TooMany_limit : PySem.W.findIn K (.ref A.C_TooMany) "limit" = some none
  x_TooMany : XClsB P w K mg base "TooMany" A.C_TooMany ["limit"] "OverflowError" "OverflowError.__new__" "OverflowError.__init__" [.type "OverflowError", .type "ArithmeticError", .type "Exception", .type "BaseException", .type "object"]
  xi_BadPath_ValueError : OkX K A.C_BadPath (.ty "ValueError") true
  xi_BadPath_BadName_BadText : OkX K A.C_BadPath (.tup [.cls A.C_BadName, .cls A.C_BadText]) false
  m_ValueError : mg "ValueError" = none
  m_abs : mg "abs" = none
  m_all : mg "all" = none
  m_bool : mg "bool" = none
  m_dict : mg "dict" = none
  m_int : mg "int" = none
  m_isinstance : mg "isinstance" = none
  m_len : mg "len" = none
  m_list : mg "list" = none
  m_max : mg "max" = none
  m_min : mg "min" = none
  m_range : mg "range" = none
  m_repr : mg "repr" = none
  m_sorted : mg "sorted" = none
  m_str : mg "str" = none
  m_tuple : mg "tuple" = none
  isi : IsiF K (isiT A)
end KL
set_option Elab.async false
set_option linter.all false
set_option maxRecDepth 100000
set_option maxHeartbeats 4000000
set_option autoImplicit false
namespace KL
open PySem PySem.Spec PyProof.Rows L2 DL
@[simp] theorem isiT_ty (A : Ad) (a b : String) : isiT A (.ty a) (.ty b) = kitB a b := rfl
@[simp] theorem isiT_own (A : Ad) (b : String) : isiT A (.cls A.C_Package) (.ty b) = if b ∈ (["str", "int", "bool", "dict", "tuple", "list", "NoneType"] : List String) then some false else none := by
  show (if A.C_Package = A.C_Package ∧ _ then _ else _) = _
  simp
theorem ex_is_name (A : Ad) : ∃ m : List D → Sto → Res D, (∀ {P : Program} {w : World} {K : PySem.W.Frag} {mg : Str → Option Value} {base : Heap}, Txt P w K mg base A → FnOk P w K mg base (L2.CX P w) 1 A.is_name A.fd_is_name ["thing"] (spF 1 m)) ∧
(∀ z S, z.length ≤ 100000 → m [.str z] S = .ok (.bl (isNm z)) S) ∧ (∀ d S, (tyN d).isSome = true → (∀ z, d ≠ .str z) → m [d] S = .ok (.bl false) S) ∧ (∀ fs S, m [.obj A.C_Package fs] S = .ok (.bl false) S) := by
  refine ⟨(runF ["thing", "sign"] _), fun {P w K mg base} T => fnd (k := 0) _ T.F_is_name sc_is_name (fun cdv A' outer s H E hr => ⟨_, _, (dss_cons (ds_if (dw_pt (dw_or (dt_not (dt_val (de_callB (v_isiG K T.isi) cr_isiK T.m_isinstance boot_isinstance (da_cons (de_var 0) (da_cons (de_ty "str" T.m_str (by decide +kernel)) da_nil))))) (dw_or1 (dt_not (dt_chain (op_le) (op_le) (v_le) (v_le) de_int (de_callB (v_len K) cr_lenA T.m_len boot_len (da_cons (de_var 0) da_nil)) (de_gInt T.g_MOST_LETTERS)))))) (dss_one (ds_ret de_bl)) dss_nil)
  (dss_one (ds_ret (de_callB (v_all K) cr_allK T.m_all (by decide +kernel) (da_cons (de_lc (own := [("sign", 1)]) (g := gName 1) ⟨blkOk_by (own := [("sign", 1)]) (N := ["thing", "sign"]) (sc := defScope s_is_name) (by decide +kernel), fun _ _ _ _ _ => pg_name (i := 1) sc_is_name.nd rfl (by first | exact Or.inl rfl | exact Or.inr rfl), fun _ _ _ _ _ => (by exact dts_nil), fun _ _ _ _ _ => (by exact (de_cmp op_in_sign v_inC (de_var 1) (de_gStr T.g_LETTERS) rfl)), ⟨[1], sog_name 1, by decide⟩⟩ (di_str (de_var 0)) rfl sc_is_name.nd) da_nil))))), fun ds S hl => Or.inr rfl⟩), ?_⟩
  refine ⟨?_, fun d S hd hn => ?_, fun fs S => ?_⟩
  case refine_2 => cases d <;> first | (cases hd; done) | (exact absurd rfl (hn _)) | simp
  case refine_3 => simp
  intro z S hz
  have e2 : z.cps.size ≤ 100000 := hz
  by_cases h1 : (1 : Int) ≤ z.length
  · by_cases h8 : (z.length : Int) ≤ 8
    · have h1' : 1 ≤ z.length := by omega
      have h8' : z.length ≤ 8 := by omega
      simp [hz, h1, h8, isNm, h1', h8']
      rw [lcomp_map (S' := S) (z.cps.toList.map fun c => .str ⟨#[c]⟩) (fun d => match d with | .str x => .bl (decide ((x.cps.toList.headD 0) ∈ alpha.cps.toList)) | _ => .non)]
      · simp [Function.comp_def, bools_map]; rfl
      · simp
      · simp; exact e2
      · intro d hd
        obtain ⟨c, _, rfl⟩ := List.mem_map.mp hd
        exact ⟨_, rfl, rfl, by simp [opInC]⟩
    · have h8' : ¬ z.length ≤ 8 := by omega
      simp [hz, h1, h8, isNm, h8']
  · have h1' : ¬ 1 ≤ z.length := by omega
    simp [hz, h1, isNm, h1']
noncomputable def m_is_name (A : Ad) : List D → Sto → Res D := Classical.choose (ex_is_name A)
theorem ok_is_name {P : Program} {w : World} {K : PySem.W.Frag} {mg : Str → Option Value} {base : Heap} {A : Ad} (T : Txt P w K mg base A) : FnOk P w K mg base (L2.CX P w) 1 A.is_name A.fd_is_name ["thing"] (spF 1 (m_is_name A)) := (Classical.choose_spec (ex_is_name A)).1 T
theorem sp_is_name (A : Ad) : (∀ z S, z.length ≤ 100000 → (m_is_name A) [.str z] S = .ok (.bl (isNm z)) S) ∧ (∀ d S, (tyN d).isSome = true → (∀ z, d ≠ .str z) → (m_is_name A) [d] S = .ok (.bl false) S) ∧ (∀ fs S, (m_is_name A) [.obj A.C_Package fs] S = .ok (.bl false) S) := (Classical.choose_spec (ex_is_name A)).2
theorem ex_is_path (A : Ad) : ∃ m : List D → Sto → Res D, (∀ {P : Program} {w : World} {K : PySem.W.Frag} {mg : Str → Option Value} {base : Heap}, Txt P w K mg base A → FnOk P w K mg base (L2.CX P w) 2 A.is_path A.fd_is_path ["thing"] (spF 1 m)) ∧
(∀ S, (∀ z, z.length ≤ 50000 → m [.str z] S = .ok (.bl (isPt z)) S) ∧ ∀ d, (tyN d).isSome = true → (∀ z, d ≠ .str z) → m [d] S = .ok (.bl false) S) ∧ (∀ fs S, m [.obj A.C_Package fs] S = .ok (.bl false) S) := by
  refine ⟨(runF ["thing", "name"] _), fun {P w K mg base} T => fnd (k := 1) _ T.F_is_path sc_is_path (fun cdv A' outer s H E hr => ⟨_, _, (dss_cons (ds_if (dt_not (dt_val (de_callB (v_isiG K T.isi) cr_isiK T.m_isinstance boot_isinstance (da_cons (de_var 0) (da_cons (de_ty "str" T.m_str (by decide +kernel)) da_nil))))) (dss_one (ds_ret de_bl)) dss_nil)
  (dss_one (ds_ret (de_or (de_cmp (or_eq (K := K) hr.units) (v_eq K) (de_var 0) (de_gStr T.g_ROOT) rfl) (de_one (de_callB (v_all K) cr_allK T.m_all (by decide +kernel) (da_cons (de_lc (own := [("name", 1)]) (g := gName 1) ⟨blkOk_by (own := [("name", 1)]) (N := ["thing", "name"]) (sc := defScope s_is_path) (by decide +kernel), fun _ _ _ _ _ => pg_name (i := 1) sc_is_path.nd rfl (by first | exact Or.inl rfl | exact Or.inr rfl), fun _ _ _ _ _ => (by exact dts_nil), fun _ _ _ _ _ => (by exact (de_call (ok_is_name T) (hr.mono (by decide)) T.g_is_name T.k_is_name T.b_is_name passN (da_cons (de_var 1) da_nil))), ⟨[1], sog_name 1, by decide⟩⟩ (di_list (K := K) (de_split (de_var 0) de_str)) rfl sc_is_path.nd) da_nil))))))), fun ds S hl => Or.inr rfl⟩), ?_⟩
  refine ⟨?_, fun fs S => ?_⟩
  case refine_2 => simp
  intro S
  refine ⟨fun z hz => ?_, fun d hd hn => ?_⟩
  case refine_2 => cases d <;> first | (cases hd; done) | (exact absurd rfl (hn _)) | simp
  by_cases h0 : z = ""
  · subst h0
    simp [opEq, isPt]
  · have h0' : ¬ z = Str.ofString "" := h0
    simp [hz, opEq, h0', isPt]
    rw [lcomp_map (S' := S) ((parts z).map .str) (fun d => match d with | .str x => .bl (isNm x) | _ => .non)]
    · simp [Function.comp_def, bools_map]
    · have : z.length ≤ 100000 := by omega
      simp [opSplit, this, parts]
    · have := parts_count z
      simp
      omega
    · intro d hd
      obtain ⟨p, hp, rfl⟩ := List.mem_map.mp hd
      refine ⟨_, rfl, rfl, ?_⟩
      have := small_parts hp
      have : p.length ≤ 100000 := by omega
      simp [(sp_is_name A).1 p S this]
noncomputable def m_is_path (A : Ad) : List D → Sto → Res D := Classical.choose (ex_is_path A)
theorem ok_is_path {P : Program} {w : World} {K : PySem.W.Frag} {mg : Str → Option Value} {base : Heap} {A : Ad} (T : Txt P w K mg base A) : FnOk P w K mg base (L2.CX P w) 2 A.is_path A.fd_is_path ["thing"] (spF 1 (m_is_path A)) := (Classical.choose_spec (ex_is_path A)).1 T
theorem sp_is_path (A : Ad) : (∀ S, (∀ z, z.length ≤ 50000 → (m_is_path A) [.str z] S = .ok (.bl (isPt z)) S) ∧ ∀ d, (tyN d).isSome = true → (∀ z, d ≠ .str z) → (m_is_path A) [d] S = .ok (.bl false) S) ∧ (∀ fs S, (m_is_path A) [.obj A.C_Package fs] S = .ok (.bl false) S) := (Classical.choose_spec (ex_is_path A)).2
theorem ex_names_in (A : Ad) : ∃ m : List D → Sto → Res D, (∀ {P : Program} {w : World} {K : PySem.W.Frag} {mg : Str → Option Value} {base : Heap}, Txt P w K mg base A → FnOk P w K mg base (L2.CX P w) 1 A.names_in A.fd_names_in ["path"] (spF 1 m)) ∧
(∀ z S, z.length ≤ 50000 → m [.str z] S = .ok (.tup ((namesL z).map .str)) S) := by
  refine ⟨(runF ["path"] _), fun {P w K mg base} T => fnd (k := 0) _ T.F_names_in sc_names_in (fun cdv A' outer s H E hr => ⟨_, _, (dss_one (ds_ret (de_if (dt_cmp (or_ne (K := K) hr.units) (v_ne K) (de_var 0) (de_gStr T.g_ROOT) rfl) (de_callTy (v_tuple K) cr_tupleK T.m_tuple (by decide +kernel) (da_cons (de_split (de_var 0) de_str) da_nil)) (de_tup da_nil)))), fun ds S hl => Or.inr rfl⟩), ?_⟩
  intro z S hz
  have h5 : z.length ≤ 100000 := by omega
  by_cases h0 : z = ""
  · subst h0
    simp [opNe, namesL, hz]
  · have h0' : ¬ z = Str.ofString "" := h0
    simp [hz, h5, opNe, h0', namesL, opSplit, fTuple, parts]
noncomputable def m_names_in (A : Ad) : List D → Sto → Res D := Classical.choose (ex_names_in A)
theorem ok_names_in {P : Program} {w : World} {K : PySem.W.Frag} {mg : Str → Option Value} {base : Heap} {A : Ad} (T : Txt P w K mg base A) : FnOk P w K mg base (L2.CX P w) 1 A.names_in A.fd_names_in ["path"] (spF 1 (m_names_in A)) := (Classical.choose_spec (ex_names_in A)).1 T
theorem sp_names_in (A : Ad) : (∀ z S, z.length ≤ 50000 → (m_names_in A) [.str z] S = .ok (.tup ((namesL z).map .str)) S) := (Classical.choose_spec (ex_names_in A)).2
theorem ex_parent_in (A : Ad) : ∃ m : List D → Sto → Res D, (∀ {P : Program} {w : World} {K : PySem.W.Frag} {mg : Str → Option Value} {base : Heap}, Txt P w K mg base A → FnOk P w K mg base (L2.CX P w) 2 A.parent_in A.fd_parent_in ["path"] (spF 1 m)) ∧
(∀ z S, z.length ≤ 50000 → m [.str z] S = .ok (.str (parentL z)) S) := by
  refine ⟨(runF ["path"] _), fun {P w K mg base} T => fnd (k := 1) _ T.F_parent_in sc_parent_in (fun cdv A' outer s H E hr => ⟨_, _, (dss_one (ds_ret (de_join (K := K) de_str (de_slice (K := K) (de_call (ok_names_in T) (hr.mono (by decide)) T.g_names_in T.k_names_in T.b_names_in pass_fn (da_cons (de_var 0) da_nil)) do_none (do_some (de_neg de_int)))))), fun ds S hl => Or.inr rfl⟩), ?_⟩
  intro z S hz
  have h := join_cut_ok z hz none (some (-1))
  simp [sp_names_in A z S hz, opCut, cutL_map, opJoin, h, parentL]
noncomputable def m_parent_in (A : Ad) : List D → Sto → Res D := Classical.choose (ex_parent_in A)
theorem ok_parent_in {P : Program} {w : World} {K : PySem.W.Frag} {mg : Str → Option Value} {base : Heap} {A : Ad} (T : Txt P w K mg base A) : FnOk P w K mg base (L2.CX P w) 2 A.parent_in A.fd_parent_in ["path"] (spF 1 (m_parent_in A)) := (Classical.choose_spec (ex_parent_in A)).1 T
theorem sp_parent_in (A : Ad) : (∀ z S, z.length ≤ 50000 → (m_parent_in A) [.str z] S = .ok (.str (parentL z)) S) := (Classical.choose_spec (ex_parent_in A)).2
theorem ex_path_key (A : Ad) : ∃ m : List D → Sto → Res D, (∀ {P : Program} {w : World} {K : PySem.W.Frag} {mg : Str → Option Value} {base : Heap}, Txt P w K mg base A → FnOk P w K mg base (L2.CX P w) 2 A.path_key A.fd_path_key ["path"] (spF 1 m)) ∧
(∀ z S, z.length ≤ 50000 → m [.str z] S = .ok (keyL z) S) := by
  refine ⟨(runF ["path", "names"] _), fun {P w K mg base} T => fnd (k := 1) _ T.F_path_key sc_path_key (fun cdv A' outer s H E hr => ⟨_, _, (dss_cons (ds_set 1 sc_path_key.nd (de_call (ok_names_in T) (hr.mono (by decide)) T.g_names_in T.k_names_in T.b_names_in pass_fn (da_cons (de_var 0) da_nil)))
  (dss_one (ds_ret (de_tup (da_cons (de_callB (v_len K) cr_lenA T.m_len boot_len (da_cons (de_var 1) da_nil)) (da_cons (de_var 1) da_nil)))))), fun ds S hl => Or.inr rfl⟩), ?_⟩
  intro z S hz
  simp [sp_names_in A z S hz, keyL]
noncomputable def m_path_key (A : Ad) : List D → Sto → Res D := Classical.choose (ex_path_key A)
theorem ok_path_key {P : Program} {w : World} {K : PySem.W.Frag} {mg : Str → Option Value} {base : Heap} {A : Ad} (T : Txt P w K mg base A) : FnOk P w K mg base (L2.CX P w) 2 A.path_key A.fd_path_key ["path"] (spF 1 (m_path_key A)) := (Classical.choose_spec (ex_path_key A)).1 T
theorem sp_path_key (A : Ad) : (∀ z S, z.length ≤ 50000 → (m_path_key A) [.str z] S = .ok (keyL z) S) := (Classical.choose_spec (ex_path_key A)).2
theorem ex_beginnings (A : Ad) : ∃ m : List D → Sto → Res D, (∀ {P : Program} {w : World} {K : PySem.W.Frag} {mg : Str → Option Value} {base : Heap}, Txt P w K mg base A → FnOk P w K mg base (L2.CX P w) 2 A.beginnings A.fd_beginnings ["path"] (spF 1 m)) ∧
(∀ z S, z.length ≤ 50000 → m [.str z] S = .ok (.lst ((begins z).map .str)) S) := by
  refine ⟨(runF ["path", "names", "many"] _), fun {P w K mg base} T => fnd (k := 1) _ T.F_beginnings sc_beginnings (fun cdv A' outer s H E hr => ⟨_, _, (dss_cons (ds_set 1 sc_beginnings.nd (de_call (ok_names_in T) (hr.mono (by decide)) T.g_names_in T.k_names_in T.b_names_in pass_fn (da_cons (de_var 0) da_nil)))
  (dss_one (ds_ret (de_lc (own := [("many", 2)]) (g := gName 2) ⟨blkOk_by (own := [("many", 2)]) (N := ["path", "names", "many"]) (sc := defScope s_beginnings) (by decide +kernel), fun _ _ _ _ _ => pg_name (i := 2) sc_beginnings.nd rfl (by first | exact Or.inl rfl | exact Or.inr rfl), fun _ _ _ _ _ => (by exact dts_nil), fun _ _ _ _ _ => (by exact (de_join (K := K) de_str (de_slice (K := K) (de_var 1) do_none (do_some (de_var 2))))), ⟨[2], sog_name 2, by decide⟩⟩ (di_range2 T.m_range (da_cons de_int (da_cons (de_callB (v_len K) cr_lenA T.m_len boot_len (da_cons (de_var 1) da_nil)) da_nil))) rfl sc_beginnings.nd)))), fun ds S hl => Or.inr rfl⟩), ?_⟩
  intro z S hz
  have hc := namesL_count z
  simp [sp_names_in A z S hz]
  rw [lcomp_map (S' := S) ((List.range ((namesL z).length - 1)).map fun (k : Nat) => D.int ((k : Int) + 1)) (fun d => match d with | .int i => .str (Txt.join slash (cutL (namesL z) none (some i))) | _ => .non)]
  · simp [Function.comp_def, begins]
  · have h1 : (-100000 : Int) < (namesL z).length := by omega
    have h2 : ((namesL z).length : Int) < 100000 := by omega
    have h3 : (((namesL z).length : Int) - 1).toNat = (namesL z).length - 1 := by omega
    simp [h1, h2, rngF, h3, Int.add_comm]
  · simp
    omega
  · intro d hd
    obtain ⟨k, _, rfl⟩ := List.mem_map.mp hd
    refine ⟨_, rfl, rfl, ?_⟩
    have h := join_cut_ok z hz none (some ((k : Int) + 1))
    simp [opCut, cutL_map, opJoin, h]
noncomputable def m_beginnings (A : Ad) : List D → Sto → Res D := Classical.choose (ex_beginnings A)
theorem ok_beginnings {P : Program} {w : World} {K : PySem.W.Frag} {mg : Str → Option Value} {base : Heap} {A : Ad} (T : Txt P w K mg base A) : FnOk P w K mg base (L2.CX P w) 2 A.beginnings A.fd_beginnings ["path"] (spF 1 (m_beginnings A)) := (Classical.choose_spec (ex_beginnings A)).1 T
theorem sp_beginnings (A : Ad) : (∀ z S, z.length ≤ 50000 → (m_beginnings A) [.str z] S = .ok (.lst ((begins z).map .str)) S) := (Classical.choose_spec (ex_beginnings A)).2
theorem ex_is_integer (A : Ad) : ∃ m : List D → Sto → Res D, (∀ {P : Program} {w : World} {K : PySem.W.Frag} {mg : Str → Option Value} {base : Heap}, Txt P w K mg base A → FnOk P w K mg base (L2.CX P w) 1 A.is_integer A.fd_is_integer ["thing"] (spF 1 m)) ∧
(∀ S, (∀ i, m [.int i] S = .ok (.bl true) S) ∧ ∀ d, (tyN d).isSome = true → (∀ z, d ≠ .int z) → m [d] S = .ok (.bl false) S) := by
  refine ⟨(runF ["thing"] _), fun {P w K mg base} T => fnd (k := 0) _ T.F_is_integer sc_is_integer (fun cdv A' outer s H E hr => ⟨_, _, (dss_one (ds_ret (de_and (de_callB (v_isiG K T.isi) cr_isiK T.m_isinstance boot_isinstance (da_cons (de_var 0) (da_cons (de_ty "int" T.m_int (by decide +kernel)) da_nil))) (de_one (de_not (de_callB (v_isiG K T.isi) cr_isiK T.m_isinstance boot_isinstance (da_cons (de_var 0) (da_cons (de_ty "bool" T.m_bool (by decide +kernel)) da_nil)))))))), fun ds S hl => Or.inr rfl⟩), ?_⟩
  intro S
  refine ⟨fun i => by simp, fun d hd hn => ?_⟩
  cases d <;> first | (cases hd; done) | (exact absurd rfl (hn _)) | simp
noncomputable def m_is_integer (A : Ad) : List D → Sto → Res D := Classical.choose (ex_is_integer A)
theorem ok_is_integer {P : Program} {w : World} {K : PySem.W.Frag} {mg : Str → Option Value} {base : Heap} {A : Ad} (T : Txt P w K mg base A) : FnOk P w K mg base (L2.CX P w) 1 A.is_integer A.fd_is_integer ["thing"] (spF 1 (m_is_integer A)) := (Classical.choose_spec (ex_is_integer A)).1 T
theorem sp_is_integer (A : Ad) : (∀ S, (∀ i, (m_is_integer A) [.int i] S = .ok (.bl true) S) ∧ ∀ d, (tyN d).isSome = true → (∀ z, d ≠ .int z) → (m_is_integer A) [d] S = .ok (.bl false) S) := (Classical.choose_spec (ex_is_integer A)).2
theorem ex_is_content (A : Ad) : ∃ m : List D → Sto → Res D, (∀ {P : Program} {w : World} {K : PySem.W.Frag} {mg : Str → Option Value} {base : Heap}, Txt P w K mg base A → FnOk P w K mg base (L2.CX P w) 2 A.is_content A.fd_is_content ["thing"] (spF 1 m)) ∧
(∀ S, (∀ i, m [.int i] S = .ok (.bl (decide (i.natAbs ≤ 999999999999))) S) ∧ ∀ d, (tyN d).isSome = true → (∀ z, d ≠ .int z) → m [d] S = .ok (.bl false) S) := by
  refine ⟨(runF ["thing"] _), fun {P w K mg base} T => fnd (k := 1) _ T.F_is_content sc_is_content (fun cdv A' outer s H E hr => ⟨_, _, (dss_one (ds_ret (de_and (de_call (ok_is_integer T) (hr.mono (by decide)) T.g_is_integer T.k_is_integer T.b_is_integer pass_fn (da_cons (de_var 0) da_nil)) (de_one (de_cmp (op_le) (v_le) (de_callB v_abs call_abs T.m_abs (by decide +kernel) (da_cons (de_var 0) da_nil)) (de_gInt T.g_MOST_CONTENT) rfl))))), fun ds S hl => Or.inr rfl⟩), ?_⟩
  intro S
  obtain ⟨h1, h2⟩ := sp_is_integer A S
  refine ⟨fun i => ?_, fun d hd hn => ?_⟩
  · simp [h1, fAbs]
    split <;> omega
  · simp [h2 d hd hn]
noncomputable def m_is_content (A : Ad) : List D → Sto → Res D := Classical.choose (ex_is_content A)
theorem ok_is_content {P : Program} {w : World} {K : PySem.W.Frag} {mg : Str → Option Value} {base : Heap} {A : Ad} (T : Txt P w K mg base A) : FnOk P w K mg base (L2.CX P w) 2 A.is_content A.fd_is_content ["thing"] (spF 1 (m_is_content A)) := (Classical.choose_spec (ex_is_content A)).1 T
theorem sp_is_content (A : Ad) : (∀ S, (∀ i, (m_is_content A) [.int i] S = .ok (.bl (decide (i.natAbs ≤ 999999999999))) S) ∧ ∀ d, (tyN d).isSome = true → (∀ z, d ≠ .int z) → (m_is_content A) [d] S = .ok (.bl false) S) := (Classical.choose_spec (ex_is_content A)).2
theorem ex_is_target (A : Ad) : ∃ m : List D → Sto → Res D, (∀ {P : Program} {w : World} {K : PySem.W.Frag} {mg : Str → Option Value} {base : Heap}, Txt P w K mg base A → FnOk P w K mg base (L2.CX P w) 3 A.is_target A.fd_is_target ["thing"] (spF 1 m)) ∧
(∀ S, (∀ z, z.length ≤ 50000 → m [.str z] S = .ok (.bl (isPt z && decide ((namesL z).length ≤ 8))) S) ∧ ∀ d, (tyN d).isSome = true → (∀ z, d ≠ .str z) → m [d] S = .ok (.bl false) S) := by
  refine ⟨(runF ["thing"] _), fun {P w K mg base} T => fnd (k := 2) _ T.F_is_target sc_is_target (fun cdv A' outer s H E hr => ⟨_, _, (dss_one (ds_ret (de_and (de_call (ok_is_path T) (hr.mono (by decide)) T.g_is_path T.k_is_path T.b_is_path pass_fn (da_cons (de_var 0) da_nil)) (de_one (de_cmp (op_le) (v_le) (de_callB (v_len K) cr_lenA T.m_len boot_len (da_cons (de_call (ok_names_in T) (hr.mono (by decide)) T.g_names_in T.k_names_in T.b_names_in pass_fn (da_cons (de_var 0) da_nil)) da_nil)) (de_gInt T.g_MOST_TARGET_NAMES) rfl))))), fun ds S hl => Or.inr rfl⟩), ?_⟩
  intro S
  refine ⟨fun z hz => ?_, fun d hd hn => ?_⟩
  case refine_2 => simp [((sp_is_path A).1 S).2 d hd hn]
  have e : (((namesL z).length : Int) ≤ 8) = ((namesL z).length ≤ 8) := by rw [eq_iff_iff]; omega
  simp [((sp_is_path A).1 S).1 z hz, sp_names_in A z S hz, e]
  cases isPt z <;> simp
noncomputable def m_is_target (A : Ad) : List D → Sto → Res D := Classical.choose (ex_is_target A)
theorem ok_is_target {P : Program} {w : World} {K : PySem.W.Frag} {mg : Str → Option Value} {base : Heap} {A : Ad} (T : Txt P w K mg base A) : FnOk P w K mg base (L2.CX P w) 3 A.is_target A.fd_is_target ["thing"] (spF 1 (m_is_target A)) := (Classical.choose_spec (ex_is_target A)).1 T
theorem sp_is_target (A : Ad) : (∀ S, (∀ z, z.length ≤ 50000 → (m_is_target A) [.str z] S = .ok (.bl (isPt z && decide ((namesL z).length ≤ 8))) S) ∧ ∀ d, (tyN d).isSome = true → (∀ z, d ≠ .str z) → (m_is_target A) [d] S = .ok (.bl false) S) := (Classical.choose_spec (ex_is_target A)).2
theorem ex_is_entry_path (A : Ad) : ∃ m : List D → Sto → Res D, (∀ {P : Program} {w : World} {K : PySem.W.Frag} {mg : Str → Option Value} {base : Heap}, Txt P w K mg base A → FnOk P w K mg base (L2.CX P w) 3 A.is_entry_path A.fd_is_entry_path ["thing"] (spF 1 m)) ∧
(∀ z S, z.length ≤ 50000 → m [.str z] S = .ok (.bl (isPt z && decide (1 ≤ (namesL z).length ∧ (namesL z).length ≤ 10))) S) := by
  refine ⟨(runF ["thing"] _), fun {P w K mg base} T => fnd (k := 2) _ T.F_is_entry_path sc_is_entry_path (fun cdv A' outer s H E hr => ⟨_, _, (dss_one (ds_ret (de_and (de_call (ok_is_path T) (hr.mono (by decide)) T.g_is_path T.k_is_path T.b_is_path pass_fn (da_cons (de_var 0) da_nil)) (de_one (de_chain (op_le) (op_le) (v_le) (v_le) de_int (de_callB (v_len K) cr_lenA T.m_len boot_len (da_cons (de_call (ok_names_in T) (hr.mono (by decide)) T.g_names_in T.k_names_in T.b_names_in pass_fn (da_cons (de_var 0) da_nil)) da_nil)) (de_gInt T.g_MOST_ENTRY_NAMES)))))), fun ds S hl => Or.inr rfl⟩), ?_⟩
  intro z S hz
  have e : (((namesL z).length : Int) ≤ 10) = ((namesL z).length ≤ 10) := by rw [eq_iff_iff]; omega
  have e1 : ((1 : Int) ≤ ((namesL z).length : Int)) = (1 ≤ (namesL z).length) := by rw [eq_iff_iff]; omega
  simp [((sp_is_path A).1 S).1 z hz, sp_names_in A z S hz, e, e1]
  cases isPt z
  · simp
  · by_cases h : 1 ≤ (namesL z).length <;> simp [h]
noncomputable def m_is_entry_path (A : Ad) : List D → Sto → Res D := Classical.choose (ex_is_entry_path A)
theorem ok_is_entry_path {P : Program} {w : World} {K : PySem.W.Frag} {mg : Str → Option Value} {base : Heap} {A : Ad} (T : Txt P w K mg base A) : FnOk P w K mg base (L2.CX P w) 3 A.is_entry_path A.fd_is_entry_path ["thing"] (spF 1 (m_is_entry_path A)) := (Classical.choose_spec (ex_is_entry_path A)).1 T
theorem sp_is_entry_path (A : Ad) : (∀ z S, z.length ≤ 50000 → (m_is_entry_path A) [.str z] S = .ok (.bl (isPt z && decide (1 ≤ (namesL z).length ∧ (namesL z).length ≤ 10))) S) := (Classical.choose_spec (ex_is_entry_path A)).2
theorem ex_kind_of (A : Ad) : ∃ m : List D → Sto → Res D, (∀ {P : Program} {w : World} {K : PySem.W.Frag} {mg : Str → Option Value} {base : Heap}, Txt P w K mg base A → FnOk P w K mg base (L2.CX P w) 1 A.kind_of A.fd_kind_of ["item"] (spF 1 m)) ∧
(∀ S, (∀ i, m [.int i] S = .ok (.str "file") S) ∧ (∀ z, m [.str z] S = .ok (.str "reference") S) ∧ m [.non] S = .ok (.str "folder") S) := by
  refine ⟨(runF ["item"] _), fun {P w K mg base} T => fnd (k := 0) _ T.F_kind_of sc_kind_of (fun cdv A' outer s H E hr => ⟨_, _, (dss_cons (ds_if (dt_cmp (op_isN) (v_isN) (de_var 0) de_non rfl) (dss_one (ds_ret (de_gStr T.g_FOLDER))) dss_nil)
  (dss_one (ds_ret (de_if (dt_val (de_callB (v_isiG K T.isi) cr_isiK T.m_isinstance boot_isinstance (da_cons (de_var 0) (da_cons (de_ty "str" T.m_str (by decide +kernel)) da_nil)))) (de_gStr T.g_REFERENCE) (de_gStr T.g_FILE))))), fun ds S hl => Or.inr rfl⟩), ?_⟩
  intro S
  refine ⟨fun i => ?_, fun z => ?_, ?_⟩ <;> simp <;> rfl
noncomputable def m_kind_of (A : Ad) : List D → Sto → Res D := Classical.choose (ex_kind_of A)
theorem ok_kind_of {P : Program} {w : World} {K : PySem.W.Frag} {mg : Str → Option Value} {base : Heap} {A : Ad} (T : Txt P w K mg base A) : FnOk P w K mg base (L2.CX P w) 1 A.kind_of A.fd_kind_of ["item"] (spF 1 (m_kind_of A)) := (Classical.choose_spec (ex_kind_of A)).1 T
theorem sp_kind_of (A : Ad) : (∀ S, (∀ i, (m_kind_of A) [.int i] S = .ok (.str "file") S) ∧ (∀ z, (m_kind_of A) [.str z] S = .ok (.str "reference") S) ∧ (m_kind_of A) [.non] S = .ok (.str "folder") S) := (Classical.choose_spec (ex_kind_of A)).2
theorem ex_path_word (A : Ad) : ∃ m : List D → Sto → Res D, (∀ {P : Program} {w : World} {K : PySem.W.Frag} {mg : Str → Option Value} {base : Heap}, Txt P w K mg base A → FnOk P w K mg base (L2.CX P w) 1 A.path_word A.fd_path_word ["path"] (spF 1 m)) ∧
(∀ z S, m [.str z] S = .ok (.str (if z = "" then "." else z)) S) := by
  refine ⟨(runF ["path"] _), fun {P w K mg base} T => fnd (k := 0) _ T.F_path_word sc_path_word (fun cdv A' outer s H E hr => ⟨_, _, (dss_one (ds_ret (de_if (dt_cmp (or_eq (K := K) hr.units) (v_eq K) (de_var 0) de_str rfl) (de_gStr T.g_ROOT_WORD) (de_var 0)))), fun ds S hl => Or.inr rfl⟩), ?_⟩
  intro z S
  by_cases h : z = Str.ofString ""
  · simp [opEq, h]
  · simp [opEq, h]
noncomputable def m_path_word (A : Ad) : List D → Sto → Res D := Classical.choose (ex_path_word A)
theorem ok_path_word {P : Program} {w : World} {K : PySem.W.Frag} {mg : Str → Option Value} {base : Heap} {A : Ad} (T : Txt P w K mg base A) : FnOk P w K mg base (L2.CX P w) 1 A.path_word A.fd_path_word ["path"] (spF 1 (m_path_word A)) := (Classical.choose_spec (ex_path_word A)).1 T
theorem sp_path_word (A : Ad) : (∀ z S, (m_path_word A) [.str z] S = .ok (.str (if z = "" then "." else z)) S) := (Classical.choose_spec (ex_path_word A)).2
theorem ex_in_order (A : Ad) : ∃ m : List D → Sto → Res D, (∀ {P : Program} {w : World} {K : PySem.W.Frag} {mg : Str → Option Value} {base : Heap}, Txt P w K mg base A → FnOk P w K mg base (L2.CX P w) 5 A.in_order A.fd_in_order ["paths"] (spF 1 m)) ∧
(∀ (ps : List Str) (S : Sto), ps.length ≤ 1000 → (∀ p ∈ ps, p.length ≤ 50000) → m [.lst (ps.map .str)] S = .ok (.lst ((sortP ps).map .str)) S) := by
  refine ⟨(runF ["paths"] _), fun {P w K mg base} T => fnd (k := 4) _ T.F_in_order sc_in_order (fun cdv A' outer s H E hr => ⟨_, _, (dss_one (ds_ret (de_sortK (K := K) (ok_path_key T) T.b_path_key (hr.mono (by decide)) T.m_sorted T.g_path_key (de_var 0)))), fun ds S hl => Or.inr rfl⟩), ?_⟩
  intro ps S h1 h2
  have e := fSortK_eq (m := m_path_key A) (l := ps.map .str) (S := S) pkD (fun d hd => by
    obtain ⟨s, hs, rfl⟩ := List.mem_map.mp hd
    simp [sp_path_key A s S (h2 s hs), pkD]) (key_ok ps h1)
  simp [e]
  unfold sortP
  rw [List.map_mergeSort]
  intro a ha b hb
  unfold leP PySem.W.dataLe PySem.W.sortLe
  simp [enc, enc_key]
noncomputable def m_in_order (A : Ad) : List D → Sto → Res D := Classical.choose (ex_in_order A)
theorem ok_in_order {P : Program} {w : World} {K : PySem.W.Frag} {mg : Str → Option Value} {base : Heap} {A : Ad} (T : Txt P w K mg base A) : FnOk P w K mg base (L2.CX P w) 5 A.in_order A.fd_in_order ["paths"] (spF 1 (m_in_order A)) := (Classical.choose_spec (ex_in_order A)).1 T
theorem sp_in_order (A : Ad) : (∀ (ps : List Str) (S : Sto), ps.length ≤ 1000 → (∀ p ∈ ps, p.length ≤ 50000) → (m_in_order A) [.lst (ps.map .str)] S = .ok (.lst ((sortP ps).map .str)) S) := (Classical.choose_spec (ex_in_order A)).2
theorem ex_row_of (A : Ad) : ∃ m : List D → Sto → Res D, (∀ {P : Program} {w : World} {K : PySem.W.Frag} {mg : Str → Option Value} {base : Heap}, Txt P w K mg base A → FnOk P w K mg base (L2.CX P w) 2 A.row_of A.fd_row_of ["path", "item"] (spF 2 m)) ∧
(∀ (p : Str) (d : D) (S : Sto), okItem d = true → p.length ≤ 50000 → (∀ z, d = .str z → z.length ≤ 40000) → m [.str p, d] S = .ok (.str (rowS p d)) S) := by
  refine ⟨(runF ["path", "item"] _), fun {P w K mg base} T => fnd (k := 1) _ T.F_row_of sc_row_of (fun cdv A' outer s H E hr => ⟨_, _, (dss_cons (ds_if (dt_cmp (op_isN) (v_isN) (de_var 1) de_non rfl) (dss_one (ds_ret (de_joined (dj_cons (de_fmt (de_var 0)) (dj_cons de_str dj_nil))))) dss_nil)
  (dss_cons (ds_if (dt_val (de_callB (v_isiG K T.isi) cr_isiK T.m_isinstance boot_isinstance (da_cons (de_var 1) (da_cons (de_ty "str" T.m_str (by decide +kernel)) da_nil)))) (dss_one (ds_ret (de_joined (dj_cons (de_fmt (de_var 0)) (dj_cons de_str (dj_cons (de_fmt (de_call (ok_path_word T) (hr.mono (by decide)) T.g_path_word T.k_path_word T.b_path_word pass_fn (da_cons (de_var 1) da_nil))) dj_nil)))))) dss_nil)
  (dss_one (ds_ret (de_joined (dj_cons (de_fmt (de_var 0)) (dj_cons de_str (dj_cons (de_fmt (de_var 1)) dj_nil)))))))), fun ds S hl => Or.inr rfl⟩), ?_⟩
  intro p d S hd hp hz
  have l1 : p.length ≤ 100000 := by omega
  have lf : (Str.ofString " folder").length = 7 := by decide +kernel
  have lt : (Str.ofString " to ").length = 4 := by decide +kernel
  have ll : (Str.ofString " file ").length = 6 := by decide +kernel
  have ld : (Str.ofString ".").length = 1 := by decide +kernel
  cases d <;> first | (cases hd; done) | skip
  · have l2 : p.length ≤ 99993 := by omega
    simp [rowS, fmtD, opIsN, l1, app_len, lf, l2]
  · rename_i i
    have hi : i.natAbs ≤ 999999999999 := by simpa [okItem] using hd
    have hl : i.natAbs.log2 < 1920 := int_small hi
    have hs : (Str.ofString i.repr).length ≤ 20 := int_len hi
    have l2 : p.length ≤ 99994 := by omega
    have l3 : p.length + 6 + (Str.ofString i.repr).length ≤ 100000 := by omega
    simp [rowS, fmtD, opIsN, l1, app_len, ll, l2, hl, l3]
  · rename_i z
    have h1 := hz z rfl
    have l2 : p.length ≤ 99996 := by omega
    have l4 : z.length ≤ 100000 := by omega
    by_cases h0 : z = Str.ofString ""
    · subst h0
      have l3 : p.length ≤ 99995 := by omega
      simp [rowS, fmtD, opIsN, l1, app_len, lt, l2, sp_path_word, ld, l3]
    · have l3 : p.length + 4 + z.length ≤ 100000 := by omega
      simp [rowS, fmtD, opIsN, l1, app_len, lt, l2, sp_path_word, h0, l4, l3]
noncomputable def m_row_of (A : Ad) : List D → Sto → Res D := Classical.choose (ex_row_of A)
theorem ok_row_of {P : Program} {w : World} {K : PySem.W.Frag} {mg : Str → Option Value} {base : Heap} {A : Ad} (T : Txt P w K mg base A) : FnOk P w K mg base (L2.CX P w) 2 A.row_of A.fd_row_of ["path", "item"] (spF 2 (m_row_of A)) := (Classical.choose_spec (ex_row_of A)).1 T
theorem sp_row_of (A : Ad) : (∀ (p : Str) (d : D) (S : Sto), okItem d = true → p.length ≤ 50000 → (∀ z, d = .str z → z.length ≤ 40000) → (m_row_of A) [.str p, d] S = .ok (.str (rowS p d)) S) := (Classical.choose_spec (ex_row_of A)).2
end KL
set_option Elab.async false
set_option linter.all false
set_option maxRecDepth 100000
set_option maxHeartbeats 4000000
set_option autoImplicit false
namespace KL
open PySem PySem.Spec PyProof.Rows L2 DL
theorem ex_show_entries (A : Ad) : ∃ m : List D → Sto → Res D, (∀ {P : Program} {w : World} {K : PySem.W.Frag} {mg : Str → Option Value} {base : Heap}, Txt P w K mg base A → FnOk P w K mg base (L2.CX P w) 3 A.show_entries A.fd_show_entries ["entries"] (spF 1 m)) ∧
(∀ (es : List (Str × D)) (S : Sto), es.length ≤ 200 → (∀ e ∈ es, Fit e) → m [.dic (kv es)] S = .ok (.str (showE es)) S) := by
  refine ⟨(runF ["entries", "path", "item"] _), fun {P w K mg base} T => fnd (k := 2) _ T.F_show_entries sc_show_entries (fun cdv A' outer s H E hr => ⟨_, _, (dss_one (ds_ret (de_join (K := K) de_str (de_lc (own := [("path", 1), ("item", 2)]) (g := gTup K 2 (gCons (gName 1) (gCons (gName 2) gNil))) ⟨blkOk_by (own := [("path", 1), ("item", 2)]) (N := ["entries", "path", "item"]) (sc := defScope s_show_entries) (by decide +kernel), fun _ _ _ _ _ => pg_tup rfl (pgs_cons (pg_name (i := 1) sc_show_entries.nd rfl (by first | exact Or.inl rfl | exact Or.inr rfl)) (pgs_cons (pg_name (i := 2) sc_show_entries.nd rfl (by first | exact Or.inl rfl | exact Or.inr rfl)) pgs_nil)), fun _ _ _ _ _ => (by exact dts_nil), fun _ _ _ _ _ => (by exact (de_call (ok_row_of T) (hr.mono (by decide)) T.g_row_of T.k_row_of T.b_row_of passN (da_cons (de_var 1) (da_cons (de_var 2) da_nil)))), ⟨[1, 2], sog_pair K 1 2, by decide⟩⟩ (di_items (de_var 0)) rfl sc_show_entries.nd)))), fun ds S hl => Or.inr rfl⟩), ?_⟩
  intro es S hn h
  simp only [runF]
  simp
  rw [lcomp_map (S' := S) (es.map fun e => .tup [.str e.1, e.2]) rowD]
  · have := show_ok hn h
    simp [opJoin, this, showE]
  · simp
  · simp
    omega
  · intro d hd
    obtain ⟨e, he, rfl⟩ := List.mem_map.mp hd
    have f := h e he
    have := sp_row_of A e.1 e.2 S f.item (Nat.le_trans f.key (by decide)) fun z hz => Nat.le_trans (f.len z hz) (by decide)
    refine ⟨_, rfl, rfl, ?_⟩
    simp [this, rowD]
noncomputable def m_show_entries (A : Ad) : List D → Sto → Res D := Classical.choose (ex_show_entries A)
theorem ok_show_entries {P : Program} {w : World} {K : PySem.W.Frag} {mg : Str → Option Value} {base : Heap} {A : Ad} (T : Txt P w K mg base A) : FnOk P w K mg base (L2.CX P w) 3 A.show_entries A.fd_show_entries ["entries"] (spF 1 (m_show_entries A)) := (Classical.choose_spec (ex_show_entries A)).1 T
theorem sp_show_entries (A : Ad) : (∀ (es : List (Str × D)) (S : Sto), es.length ≤ 200 → (∀ e ∈ es, Fit e) → (m_show_entries A) [.dic (kv es)] S = .ok (.str (showE es)) S) := (Classical.choose_spec (ex_show_entries A)).2
theorem ex_look_entries (A : Ad) : ∃ m : List D → Sto → Res D, (∀ {P : Program} {w : World} {K : PySem.W.Frag} {mg : Str → Option Value} {base : Heap}, Txt P w K mg base A → FnOk P w K mg base (L2.CX P w) 6 A.look_entries A.fd_look_entries ["entries"] (spF 1 m)) ∧
(∀ (es : List (Str × D)) (S : Sto), es.length ≤ 200 → (∀ e ∈ es, e.1.length ≤ 50000) → (∀ e ∈ es, ∀ z, e.2 = .str z → z.length ≤ 50000) → (∀ e ∈ es, (tyN e.2).isSome = true) →
  m [.dic (kv es)] S = match badE es with | some p => .exc A.C_BadEntry [("path", .str p)] S | none => .ok .non S) := by
  refine ⟨(runF ["entries", "key", "path", "item", "start"] _), fun {P w K mg base} T => fnd (k := 5) _ T.F_look_entries sc_look_entries (fun cdv A' outer s H E hr => ⟨_, _, (dss_cons (ds_if (dw_pt (dw_or (dt_not (dt_val (de_callB (v_isiG K T.isi) cr_isiK T.m_isinstance boot_isinstance (da_cons (de_var 0) (da_cons (de_ty "dict" T.m_dict (by decide +kernel)) da_nil))))) (dw_or1 (dt_not (dt_val (de_callB (v_all K) cr_allK T.m_all (by decide +kernel) (da_cons (de_lc (own := [("key", 1)]) (g := gName 1) ⟨blkOk_by (own := [("key", 1)]) (N := ["entries", "key", "path", "item", "start"]) (sc := defScope s_look_entries) (by decide +kernel), fun _ _ _ _ _ => pg_name (i := 1) sc_look_entries.nd rfl (by first | exact Or.inl rfl | exact Or.inr rfl), fun _ _ _ _ _ => (by exact dts_nil), fun _ _ _ _ _ => (by exact (de_callB (v_isiG K T.isi) cr_isiK T.m_isinstance boot_isinstance (da_cons (de_var 1) (da_cons (de_ty "str" T.m_str (by decide +kernel)) da_nil)))), ⟨[1], sog_name 1, by decide⟩⟩ (di_keys (de_var 0)) rfl sc_look_entries.nd) da_nil))))))) (dss_one (ds_raise T.x_BadEntry (hr.mono (by decide)) takes_fn rfl (da_cons de_non da_nil))) dss_nil)
  (dss_cons (ds_for (g := gName 1) own_fn (di_list (K := K) (de_callB (v_sortedX K) (cr_sortedX (K := K) hr.units) T.m_sorted (by decide +kernel) (da_cons (de_callTy v_listD (call_listD rfl) T.m_list (by decide +kernel) (da_cons (de_var 0) da_nil)) da_nil))) (pg_name (i := 1) sc_look_entries.nd rfl (by first | exact Or.inl rfl | exact Or.inr rfl)) (sog_name 1) (dss_one (ds_if (dt_not (dt_val (de_call (ok_is_entry_path T) (hr.mono (by decide)) T.g_is_entry_path T.k_is_entry_path T.b_is_entry_path pass_fn (da_cons (de_var 1) da_nil)))) (dss_one (ds_raise T.x_BadEntry (hr.mono (by decide)) takes_fn rfl (da_cons (de_var 1) da_nil))) dss_nil)))
  (dss_one (ds_for (g := gName 2) own_fn (di_list (K := K) (de_call (ok_in_order T) (hr.mono (by decide)) T.g_in_order T.k_in_order T.b_in_order pass_fn (da_cons (de_callTy v_listD (call_listD rfl) T.m_list (by decide +kernel) (da_cons (de_var 0) da_nil)) da_nil))) (pg_name (i := 2) sc_look_entries.nd rfl (by first | exact Or.inl rfl | exact Or.inr rfl)) (sog_name 2) (dss_cons (ds_set 3 sc_look_entries.nd (de_dget hr.units (de_var 0) (de_var 2)))
  (dss_cons (ds_if (dw_pt (dw_and (dt_cmp (op_notN) (v_notN) (de_var 3) de_non rfl) (dw_and (dt_not (dt_val (de_call (ok_is_content T) (hr.mono (by decide)) T.g_is_content T.k_is_content T.b_is_content pass_fn (da_cons (de_var 3) da_nil)))) (dw_and1 (dt_not (dt_val (de_call (ok_is_target T) (hr.mono (by decide)) T.g_is_target T.k_is_target T.b_is_target pass_fn (da_cons (de_var 3) da_nil)))))))) (dss_one (ds_raise T.x_BadEntry (hr.mono (by decide)) takes_fn rfl (da_cons (de_var 2) da_nil))) dss_nil)
  (dss_one (ds_if (dt_not (dt_val (de_callB (v_all K) cr_allK T.m_all (by decide +kernel) (da_cons (de_lc (own := [("start", 4)]) (g := gName 4) ⟨blkOk_by (own := [("start", 4)]) (N := ["entries", "key", "path", "item", "start"]) (sc := defScope s_look_entries) (by decide +kernel), fun _ _ _ _ _ => pg_name (i := 4) sc_look_entries.nd rfl (by first | exact Or.inl rfl | exact Or.inr rfl), fun _ _ _ _ _ => (by exact dts_nil), fun _ _ _ _ _ => (by exact (de_cmp (op_isN) (v_isN) (de_get1 hr.units (de_var 0) (de_var 4)) de_non rfl)), ⟨[4], sog_name 4, by decide⟩⟩ (di_list (K := K) (de_call (ok_beginnings T) (hr.mono (by decide)) T.g_beginnings T.k_beginnings T.b_beginnings pass_fn (da_cons (de_var 2) da_nil))) rfl sc_look_entries.nd) da_nil)))) (dss_one (ds_raise T.x_BadEntry (hr.mono (by decide)) takes_fn rfl (da_cons (de_var 2) da_nil))) dss_nil)))))))), fun ds S hl => Or.inr rfl⟩), ?_⟩
  intro es S hn hk hz ht
  simp only [runF]
  simp
  have hb : ∀ l : List (Str × D), bools (l.map ((fun x : D => D.bl true) ∘ fun e => D.str e.1)) = some (l.map fun _ => true) := fun l => bools_comp (fun _ => true) l
  have hlen : (es.map (·.1)).length ≤ 1000 := by simp; omega
  have hkey : ∀ p ∈ es.map (·.1), p.length ≤ 50000 := fun p hp => by
    obtain ⟨e, he, rfl⟩ := List.mem_map.mp hp
    exact hk e he
  have ek : (es.map fun e => D.str e.1) = (es.map (·.1)).map D.str := by rw [List.map_map]; rfl
  rw [lcomp_map (S' := S) (es.map fun e => .str e.1) (fun _ => .bl true)]
  · have hall : (List.map (fun (_ : Str × D) => true) es).all id = true := by simp
    simp [hb]
    rw [ek]
    simp only [fSorted, vL, Option.bind_some, if_pos (encOk_strs _ hlen), sortD_strs]
    simp only [lift, Res.bind, Res.flow]
    obtain ⟨ρ1, ⟨r1, rfl, hr1⟩, e1⟩ := forF_first (gF := gfName 1) (Φ := fIf (notB (tst (callF 1 (m_is_entry_path A) (consA (fVar 1) fNilA)))) (fRaise A.C_BadEntry [Str.ofString "path"] (consA (fVar 1) fNilA)) fNext)
      (fun ρ => ∃ r, ρ = some (D.dic (kv es)) :: r ∧ r.length = 4) S (fun p => !isEP p) (fun p => .ex A.C_BadEntry [("path", .str p)]) (sortS (es.map (·.1))) [some (D.dic (kv es)), none, none, none, none] ⟨_, rfl, rfl⟩ (fun p hp ρ ⟨r, hρ, hl⟩ => by
        subst hρ
        match r, hl with
        | [a, b, c, d], _ =>
          have hp' : p ∈ es.map (·.1) := (List.mergeSort_perm _ _).mem_iff.mp hp
          have := sp_is_entry_path A p S (hkey p hp')
          refine ⟨_, [some (D.dic (kv es)), some (.str p), b, c, d], rfl, ⟨_, rfl, rfl⟩, ?_⟩
          have ee : isEP p = (isPt p && decide (1 ≤ (namesL p).length ∧ (namesL p).length ≤ 10)) := rfl
          rw [ee]
          simp [this, fldD])
    rw [e1]
    cases hf : (sortS (es.map (·.1))).find? fun p => !isEP p with
    | some p => simp [badE, hf]
    | none =>
      match r1, hr1 with
      | [a1, b1, c1, d1], _ =>
      have hin := sp_in_order A (es.map (·.1)) S hlen hkey
      simp only [Flow.seq, fFor]
      simp
      rw [ek]
      simp only [hin]
      simp
      rw [(forF_first (gF := gfName 2) (fun ρ => ∃ r, ρ = some (D.dic (kv es)) :: r ∧ r.length = 4) S (fun p => !okItem ((getE es p).getD .non) || !((begins p).all fun q => isNoneD ((getE es q).getD .non))) (fun p => .ex A.C_BadEntry [("path", .str p)]) (sortP (es.map (·.1))) [some (D.dic (kv es)), a1, b1, c1, d1] ⟨_, rfl, rfl⟩ ?step).choose_spec.2]
      · have eb : badE es = (sortP (es.map (·.1))).find? (fun p => !okItem ((getE es p).getD .non) || !((begins p).all fun q => isNoneD ((getE es q).getD .non))) := by unfold badE; rw [hf]
        rw [eb]
        generalize (Exists.choose _ : DL.Env) = ρx
        cases (sortP (es.map (·.1))).find? (fun p => !okItem ((getE es p).getD .non) || !((begins p).all fun q => isNoneD ((getE es q).getD .non))) <;> rfl
      case step =>
        rintro p hp ρ ⟨r, rfl, hl⟩
        match r, hl with
        | [a, b, c, d], _ =>
          have hp' : p ∈ es.map (·.1) := (List.mergeSort_perm _ _).mem_iff.mp hp
          obtain ⟨e, he, rfl, hg⟩ := getE_mem hp'
          have hbg := sp_beginnings A e.1 S (hk e he)
          obtain ⟨c1', c2'⟩ := sp_is_content A S
          obtain ⟨t1', t2'⟩ := sp_is_target A S
          have hlc : lcomp [4] (itF asL (callF 1 (m_beginnings A) (consA (fVar 2) fNilA))) (gfName 4) fYes (DL.bin opIsN (dget1 (fVar 0) (fVar 4)) (fC D.non)) [some (D.dic (kv es)), a, some (D.str e.1), some e.2, d] S = .ok (.lst (((begins e.1).map D.str).map (noneD es))) S := by
            rw [lcomp_map (S' := S) ((begins e.1).map D.str) (noneD es)]
            · simp [hbg]
            · have := namesL_count e.1
              have := hk e he
              unfold begins
              simp
              omega
            · intro x hx
              obtain ⟨q, hq, rfl⟩ := List.mem_map.mp hx
              refine ⟨_, rfl, rfl, ?_⟩
              simp [look_kv, isDc_dic, noneD]
          have hall2 : bools (((begins e.1).map D.str).map (noneD es)) = some ((begins e.1).map fun q => isNoneD ((getE es q).getD .non)) := by
            rw [List.map_map]
            exact bools_comp (fun q => isNoneD ((getE es q).getD .non)) _
          have hti := ht e he
          have hzi := hz e he
          refine ⟨_, [some (D.dic (kv es)), a, some (.str e.1), some e.2, d], rfl, ⟨_, rfl, rfl⟩, ?_⟩
          rw [hg]
          obtain ⟨p, it⟩ := e
          dsimp only at hlc hall2 hg hti hzi ⊢
          have e3 : fSeq (fSet 3 (dget (fVar 0) (fVar 2))) (fIf (andB (tst (DL.bin opNotN (fVar 3) (fC D.non))) (andB (notB (tst (callF 1 (m_is_content A) (consA (fVar 3) fNilA)))) (notB (tst (callF 1 (m_is_target A) (consA (fVar 3) fNilA)))))) (fRaise A.C_BadEntry [Str.ofString "path"] (consA (fVar 2) fNilA)) fNext) [some (D.dic (kv es)), a, some (.str p), c, d] S
              = if okItem it = true then .nx [some (D.dic (kv es)), a, some (.str p), some it, d] S else .ex A.C_BadEntry [("path", .str p)] [some (D.dic (kv es)), a, some (.str p), some it, d] S := by
            cases it <;> first | (cases hti; done) | skip
            all_goals simp only [fSeq, fSet]
            · simp [look_kv, hg, okItem, fldD]
            · rename_i b0
              simp [look_kv, hg, okItem, fldD, c2' (.bl b0) rfl (by simp), t2' (.bl b0) rfl (by simp)]
            · rename_i i0
              by_cases h0 : i0.natAbs ≤ 999999999999
              · simp [look_kv, hg, okItem, fldD, c1', h0]
              · simp [look_kv, hg, okItem, fldD, c1', h0, t2' (.int i0) rfl (by simp)]
            · rename_i s0
              have hs0 := t1' s0 (hzi s0 rfl)
              by_cases h0 : isPt s0 = true ∧ (namesL s0).length ≤ 8
              · simp [look_kv, hg, okItem, fldD, c2' (.str s0) rfl (by simp), hs0, h0]
              · have h1 : (isPt s0 && decide ((namesL s0).length ≤ 8)) = false := by simpa using h0
                simp [look_kv, hg, okItem, fldD, c2' (.str s0) rfl (by simp), hs0, h1, h0]
            · rename_i l0
              simp [look_kv, hg, okItem, fldD, c2' (.lst l0) rfl (by simp), t2' (.lst l0) rfl (by simp)]
            · rename_i l0
              simp [look_kv, hg, okItem, fldD, c2' (.tup l0) rfl (by simp), t2' (.tup l0) rfl (by simp)]
            · rename_i l0
              simp [look_kv, hg, okItem, fldD, c2' (.dic l0) rfl (by simp), t2' (.dic l0) rfl (by simp)]
          rw [seq_assoc, seq_run]
          have eρ : (List.set (some (D.dic (kv es)) :: [a, b, c, d]) 2 (some (D.str p))) = [some (D.dic (kv es)), a, some (.str p), c, d] := rfl
          rw [eρ, e3]
          by_cases hok : okItem it = true
          · rw [if_pos hok]
            simp only [Flow.seq]
            have hall4 : fAll S [.lst (((begins p).map D.str).map (noneD es))] = some (.bl ((begins p).all fun q => isNoneD ((getE es q).getD .non))) := by
              simp only [fAll]
              rw [hall2, Option.map_some, List.all_map]
              rfl
            generalize ((begins p).all fun q => isNoneD ((getE es q).getD .non)) = B at hall4 ⊢
            simp only [fIf, notB, tst, app, consA, hlc, fNilA, Res.bind, hall4, lift]
            cases B <;> simp [hok, fldD]
          · rw [if_neg hok]
            simp [hok]
  · simp
  · simp
    omega
  · intro d hd
    obtain ⟨e, he, rfl⟩ := List.mem_map.mp hd
    exact ⟨_, rfl, rfl, by simp⟩
noncomputable def m_look_entries (A : Ad) : List D → Sto → Res D := Classical.choose (ex_look_entries A)
theorem ok_look_entries {P : Program} {w : World} {K : PySem.W.Frag} {mg : Str → Option Value} {base : Heap} {A : Ad} (T : Txt P w K mg base A) : FnOk P w K mg base (L2.CX P w) 6 A.look_entries A.fd_look_entries ["entries"] (spF 1 (m_look_entries A)) := (Classical.choose_spec (ex_look_entries A)).1 T
theorem sp_look_entries (A : Ad) : (∀ (es : List (Str × D)) (S : Sto), es.length ≤ 200 → (∀ e ∈ es, e.1.length ≤ 50000) → (∀ e ∈ es, ∀ z, e.2 = .str z → z.length ≤ 50000) → (∀ e ∈ es, (tyN e.2).isSome = true) →
  (m_look_entries A) [.dic (kv es)] S = match badE es with | some p => .exc A.C_BadEntry [("path", .str p)] S | none => .ok .non S) := (Classical.choose_spec (ex_look_entries A)).2
theorem ex_completed (A : Ad) : ∃ m : List D → Sto → Res D, (∀ {P : Program} {w : World} {K : PySem.W.Frag} {mg : Str → Option Value} {base : Heap}, Txt P w K mg base A → FnOk P w K mg base (L2.CX P w) 6 A.completed A.fd_completed ["entries"] (spF 1 m)) ∧
(∀ (es : List (Str × D)) (S : Sto), (pathsE es).length ≤ 1000 → (∀ p ∈ pathsE es, p.length ≤ 50000) → m [.dic (kv es)] S = .ok (.hot S.length) (S ++ [.dic (kv (compE es))])) := by
  refine ⟨(runF ["entries", "paths", "path", "start"] _), fun {P w K mg base} T => fnd (k := 5) _ T.F_completed sc_completed (fun cdv A' outer s H E hr => ⟨_, _, (dss_cons (ds_setLc2 1 (own := [("path", 2), ("start", 3)]) (g := gName 2) (g1 := gName 3) (vs1 := [3]) ⟨blkOk_by (own := [("path", 2), ("start", 3)]) (N := ["entries", "paths", "path", "start"]) (sc := defScope s_completed) (by decide +kernel), fun _ _ _ _ _ => pg_name (i := 2) sc_completed.nd rfl (by first | exact Or.inl rfl | exact Or.inr rfl), fun _ _ _ _ _ => (by exact dts_nil), fun _ _ _ _ _ => (by exact (di_list (K := K) (de_lst (da_star (K := K) (de_call (ok_beginnings T) (hr.mono (by decide)) T.g_beginnings T.k_beginnings T.b_beginnings passN (da_cons (de_var 2) da_nil)) (da_cons (de_var 2) da_nil))))), fun _ _ _ _ _ => pg_name (i := 3) sc_completed.nd rfl (by first | exact Or.inl rfl | exact Or.inr rfl), fun _ _ _ _ _ => (by exact dts_nil), fun _ _ _ _ _ => (by exact (de_var 3)), ⟨[2], sog_name 2, by decide⟩, ⟨[3], sog_name 3, by decide⟩, by decide⟩ (di_keys (de_var 0)) sc_completed.nd)
  (dss_one (ds_ret (de_dc (own := [("path", 2)]) (g := gName 2) ⟨blkOk_by (own := [("path", 2)]) (N := ["entries", "paths", "path", "start"]) (sc := defScope s_completed) (by decide +kernel), fun _ _ _ _ _ => pg_name (i := 2) sc_completed.nd rfl (by first | exact Or.inl rfl | exact Or.inr rfl), fun _ _ _ _ _ => (by exact dts_nil), fun _ _ _ _ _ => (by exact (de_get1 hr.units (de_var 0) (de_var 2))), ⟨[2], sog_name 2, by decide⟩⟩ (fun _ _ _ _ _ => (by exact (de_var 2))) (di_list (K := K) (de_call (ok_in_order T) (hr.mono (by decide)) T.g_in_order T.k_in_order T.b_in_order pass_fn (da_cons (de_var 1) da_nil))) rfl sc_completed.nd)))), fun ds S hl => Or.inr rfl⟩), ?_⟩
  intro es S hn hk
  have hke : ∀ e ∈ es, e.1.length ≤ 50000 := fun e he => hk e.1 (List.mem_flatMap.mpr ⟨e.1, List.mem_map.mpr ⟨e, he, rfl⟩, List.mem_append_right _ List.mem_cons_self⟩)
  have ek : (es.map fun e => D.str e.1) = (es.map (·.1)).map D.str := by rw [List.map_map]; rfl
  simp only [runF]
  simp
  rw [lcomp2_map (S' := S) (es.map (·.1)) (fun p => begins p ++ [p])]
  · have hin := sp_in_order A (pathsE es) S hn hk
    simp
    rw [dcomp_map (S' := S) (sortP (pathsE es)) id (fun p => (getE es p).getD .non)]
    · simp
      exact kv_fold (fun p => (getE es p).getD .non) _ []
    · have e0 : (List.flatMap (fun p => begins p ++ [p]) (List.map (fun x => x.fst) es)) = pathsE es := rfl
      rw [e0]
      simp [hin]
    · unfold sortP
      rw [List.length_mergeSort]
      omega
    · intro p hp
      refine ⟨_, rfl, rfl, by simp, ?_⟩
      simp [look_kv, isDc_dic]
  · simp [ek]
  · show (pathsE es).length ≤ _
    omega
  · intro p hp
    obtain ⟨e, he, rfl⟩ := List.mem_map.mp hp
    have hb := sp_beginnings A e.1 S (hke e he)
    refine ⟨_, rfl, rfl, ?_, fun q hq => ⟨_, rfl, rfl, by simp⟩⟩
    have hl : (begins e.1).length ≤ 99999 := by
      have h1 := namesL_count e.1
      have h2 := hke e he
      unfold begins
      simp
      omega
    simp [hb, seqD, hl]
noncomputable def m_completed (A : Ad) : List D → Sto → Res D := Classical.choose (ex_completed A)
theorem ok_completed {P : Program} {w : World} {K : PySem.W.Frag} {mg : Str → Option Value} {base : Heap} {A : Ad} (T : Txt P w K mg base A) : FnOk P w K mg base (L2.CX P w) 6 A.completed A.fd_completed ["entries"] (spF 1 (m_completed A)) := (Classical.choose_spec (ex_completed A)).1 T
theorem sp_completed (A : Ad) : (∀ (es : List (Str × D)) (S : Sto), (pathsE es).length ≤ 1000 → (∀ p ∈ pathsE es, p.length ≤ 50000) → (m_completed A) [.dic (kv es)] S = .ok (.hot S.length) (S ++ [.dic (kv (compE es))])) := (Classical.choose_spec (ex_completed A)).2
end KL
set_option Elab.async false
set_option linter.all false
set_option maxRecDepth 100000
set_option maxHeartbeats 4000000
set_option autoImplicit false
namespace KL
open PySem PySem.Spec PyProof.Rows L2 DL
theorem lowS_push {S : Sto} {o : HotO} (h : LowS S.length S) (ho : sbO (DL.upTo (S.length + 1)) o = some o) : LowS (S ++ [o]).length (S ++ [o]) := by
  unfold LowS at h ⊢
  rw [List.length_append]
  have h1 := sb_monoS (g := DL.upTo S.length) (g' := DL.upTo (S.length + 1)) (fun i d e => by
    unfold DL.upTo at e ⊢
    by_cases hi : i < S.length
    · rw [if_pos hi] at e; rw [if_pos (by omega)]; exact e
    · rw [if_neg hi] at e; cases e) S h
  have app : ∀ (X Y : Sto) (X' Y' : List HotO) (g : Nat → Option D), sbS g X = some X' → sbS g Y = some Y' → sbS g (X ++ Y) = some (X' ++ Y') := by
    intro X
    induction X with
    | nil => intro Y X' Y' g e1 e2; cases e1; exact e2
    | cons x X ih =>
      intro Y X' Y' g e1 e2
      obtain ⟨x', q1, e1⟩ := Option.bind_eq_some_iff.mp e1
      obtain ⟨r, q2, rfl⟩ := Option.map_eq_some_iff.mp e1
      exact Option.bind_eq_some_iff.mpr ⟨x', q1, Option.map_eq_some_iff.mpr ⟨r ++ Y', ih Y r Y' g q2 e2, rfl⟩⟩
  refine app S [o] S [o] _ h1 ?_
  show (sbO (DL.upTo (S.length + 1)) o).bind _ = _
  rw [ho]
  rfl
theorem low_items {n : Nat} : ∀ {es : List (Str × D)}, (∀ e ∈ es, okItem e.2 = true) → sbK (DL.upTo n) (kv es) = some (kv es)
  | [], _ => rfl
  | e :: es, h => by
    have h1 : sbD (DL.upTo n) e.2 = some e.2 := by
      have := h e List.mem_cons_self
      cases hd : e.2 <;> rw [hd] at this <;> first | (cases this; done) | rfl
    show ((sbD (DL.upTo n) e.2).bind fun x => (sbK (DL.upTo n) (kv es)).map (_ :: ·)) = _
    rw [h1, low_items fun x hx => h x (List.mem_cons_of_mem _ hx)]
    rfl
theorem hotO_new (S T : Sto) (C : Addr) (l : List (Str × D)) : hotO (S ++ HotO.obj C l :: T) S.length = some (C, l) := by
  unfold hotO
  rw [List.getElem?_append_right (Nat.le_refl _), Nat.sub_self]
  rfl
theorem vO_new (S T : Sto) (C : Addr) (l : List (Str × D)) : vO (S ++ HotO.obj C l :: T) (.hot S.length) = some (C, l) := by
  unfold vO
  dsimp only
  rw [List.getElem?_append_right (Nat.le_refl _), Nat.sub_self]
  rfl
theorem set_new (S T : Sto) (x y : HotO) : (S ++ x :: T).set S.length y = S ++ y :: T := by
  rw [List.set_append_right _ _ (Nat.le_refl _), Nat.sub_self]
  rfl
theorem init_kid (A : Ad) {S : Sto} {F : List (Str × D)} {d1 : List (Str × D)} {e : Str × D} {a b c : List D} {x y : Option D} (hF : F.lookup ("parts" : Str) = some (.hot (S.length + 2))) (hW : WellE d1 e) (hf : Fit e) (hn : d1.length ≤ 1000) :
    fExpr (fAppend (dget (fldF A.C_Package (Str.ofString "parts") (fVar 0)) (callF 1 (m_parent_in A) (consA (fVar 3) fNilA))) (DL.bin opIx (callF 1 (m_names_in A) (consA (fVar 3) fNilA)) (fNeg (fC (D.int 1))))) [some (.hot S.length), x, y, some (.str e.1), some e.2] (S ++ HotO.obj A.C_Package F :: stQ S.length (kidsP d1) (foldsP d1) a b c)
      = .nx [some (.hot S.length), x, y, some (.str e.1), some e.2] (S ++ HotO.obj A.C_Package F :: stQ S.length (kidsP (d1 ++ [e])) (foldsP d1) a b c) := by
  obtain ⟨k, l, h0, h1, h2, h3⟩ := st_kid (n := S.length) (L := d1) (e := e) (a := a) (b := b) (c := c) hW.nd hW.no hW.par
  have hk : e.1.length ≤ 50000 := Nat.le_trans hf.key (by decide)
  have hv : lookD (S ++ HotO.obj A.C_Package F :: stQ S.length (kidsP d1) (foldsP d1) a b c) (.hot (S.length + 2)) (.str (parentL e.1)) = some (some (.hot (S.length + 1 + k))) := by
    unfold lookD
    rw [show S.length + 2 = S.length + 1 + 1 by omega, vK_store S _ _ 1 (partsK S.length (foldsP d1)) rfl]
    show some (getA _ _) = _
    rw [h1]
  have hL : hotL (S ++ HotO.obj A.C_Package F :: stQ S.length (kidsP d1) (foldsP d1) a b c) (S.length + 1 + k) = some l := by
    unfold hotL
    rw [at_store, h2]
  have hll : l.length < 100000 := by omega
  simp [vO_new, hF, sp_parent_in A _ _ hk, sp_names_in A _ _ hk, hv, hL, hll, last_at hW.ne, set_store, h3]
theorem init_sort (A : Ad) {S : Sto} {F : List (Str × D)} {d1 : List (Str × D)} {e : Str × D} {K : Str → List D} {fs : List Str} {x y : Option D} (hF : F.lookup ("sorts" : Str) = some (.hot (S.length + 6))) (hf : Fit e) (hn : d1.length ≤ 1000) :
    fExpr (fAppend (dget (fldF A.C_Package (Str.ofString "sorts") (fVar 0)) (callF 1 (m_kind_of A) (consA (fVar 4) fNilA))) (fVar 3)) [some (.hot S.length), x, y, some (.str e.1), some e.2] (S ++ HotO.obj A.C_Package F :: stQ S.length K fs (sortsP d1 "file") (sortsP d1 "folder") (sortsP d1 "reference"))
      = .nx [some (.hot S.length), x, y, some (.str e.1), some e.2] (S ++ HotO.obj A.C_Package F :: stQ S.length K fs (sortsP (d1 ++ [e]) "file") (sortsP (d1 ++ [e]) "folder") (sortsP (d1 ++ [e]) "reference")) := by
  obtain ⟨k, l, h0, h1, h2, h3⟩ := st_sort (n := S.length) (K := K) (L := d1) (e := e) (fs := fs)
  generalize hT : stQ S.length K fs (sortsP d1 "file") (sortsP d1 "folder") (sortsP d1 "reference") = T at h2 h3 ⊢
  have hT5 : T[5]? = some (.dic (sortsK S.length)) := by rw [← hT]; rfl
  have hv : lookD (S ++ HotO.obj A.C_Package F :: T) (.hot (S.length + 6)) (.str (kindS e.2)) = some (some (.hot (S.length + 1 + k))) := by
    unfold lookD
    rw [show S.length + 6 = S.length + 1 + 5 by omega, vK_store S _ _ 5 (sortsK S.length) hT5]
    show some (getA _ _) = _
    rw [h1]
  have hL : hotL (S ++ HotO.obj A.C_Package F :: T) (S.length + 1 + k) = some l := by
    unfold hotL
    rw [at_store, h2]
  have hll : l.length < 100000 := by omega
  have hm : ∀ S', m_kind_of A [e.2] S' = .ok (.str (kindS e.2)) S' := by
    intro S'
    obtain ⟨q1, q2, q3⟩ := sp_kind_of A S'
    have := hf.item
    cases hd : e.2 <;> rw [hd] at this <;> first | (cases this; done) | exact q3 | exact q1 _ | exact q2 _
  simp [vO_new, hF, hm, hv, hL, hll, set_store, h3]
theorem init_fold (A : Ad) {S : Sto} {F : List (Str × D)} {p : Str} {K : Str → List D} {fs : List Str} {a b c : List D} {x y z : Option D} (hF : F.lookup ("parts" : Str) = some (.hot (S.length + 2))) (hp : p ∉ fs) (h0 : p ≠ "") (hK : K p = []) (hn : fs.length ≤ 1000) :
    fDPut (dispH fNilA) (fldF A.C_Package (Str.ofString "parts") (fVar 0)) (fVar 3) [some (.hot S.length), x, y, some (.str p), z] (S ++ HotO.obj A.C_Package F :: stQ S.length K fs a b c)
      = .nx [some (.hot S.length), x, y, some (.str p), z] (S ++ HotO.obj A.C_Package F :: stQ S.length K (fs ++ [p]) a b c) := by
  have h := st_fold (n := S.length) (a := a) (b := b) (c := c) hp h0 hK
  have hl : (partsK S.length fs).length < 100000 := by
    have : ∀ (gs : List Str) j, (idxK S.length gs j).length = gs.length := by
      intro gs
      induction gs with
      | nil => intro j; rfl
      | cons g gs ih => intro j; simp [idxK, ih]
    unfold partsK
    rw [List.length_cons, this]
    omega
  generalize hT : stQ S.length K fs a b c = T at h ⊢
  have hT1 : (T ++ [HotO.lst []])[1]? = some (.dic (partsK S.length fs)) := by rw [← hT]; rfl
  have hv := hK_store S (HotO.obj A.C_Package F) _ 1 _ hT1
  have hs := set_store S (HotO.obj A.C_Package F) (T ++ [HotO.lst []]) 1
  rw [show S.length + 1 + 1 = S.length + 2 by omega] at hv hs
  have e0 : S.length + (T.length + 1) = S.length + 1 + T.length := by omega
  simp [mkH, vO_new, hF, putS, hv, hl, keyD, hs, e0, h]
theorem init_loop (A : Ad) {S : Sto} {F : List (Str × D)} {x y : Option D} (hF : F.lookup ("parts" : Str) = some (.hot (S.length + 2))) (hF2 : F.lookup ("sorts" : Str) = some (.hot (S.length + 6))) (R : List (Str × D)) (hn : R.length ≤ 1000) (hf : ∀ e ∈ R, Fit e) (hW : WellC R) :
    ∃ ρ', (∃ p q, ρ' = [some (.hot S.length), x, y, p, q]) ∧ forF (gfPair 3 4)
        (fSeq
          (fExpr
            (fAppend
              (dget (fldF A.C_Package (Str.ofString "parts") (fVar 0)) (callF 1 (m_parent_in A) (consA (fVar 3) fNilA)))
              (DL.bin opIx (callF 1 (m_names_in A) (consA (fVar 3) fNilA)) (fNeg (fC (D.int 1))))))
          (fSeq
            (fExpr
              (fAppend
                (dget (fldF A.C_Package (Str.ofString "sorts") (fVar 0)) (callF 1 (m_kind_of A) (consA (fVar 4) fNilA)))
                (fVar 3)))
            (fIf (tst (DL.bin opIsN (fVar 4) (fC D.non)))
              (fDPut (dispH fNilA) (fldF A.C_Package (Str.ofString "parts") (fVar 0)) (fVar 3)) fNext)))
        (R.map (fun e => D.tup [D.str e.fst, e.snd])) [some (.hot S.length), x, y, none, none] (S ++ HotO.obj A.C_Package F :: stP S.length []) = .nx ρ' (S ++ HotO.obj A.C_Package F :: stP S.length R) := by
  refine forF_pre (fun e : Str × D => D.tup [D.str e.1, e.2]) (fun ρ => ∃ p q, ρ = [some (.hot S.length), x, y, p, q]) (fun L => S ++ HotO.obj A.C_Package F :: stP S.length L) R [] _ ⟨none, none, rfl⟩ ?_
  rintro d1 e d2 hd ρ ⟨p, q, rfl⟩
  have hd : R = d1 ++ e :: d2 := hd
  have hW := hW d1 e d2 hd
  have hf := hf e (by rw [hd]; simp)
  have hn : d1.length ≤ 1000 := by rw [hd] at hn; simp at hn; omega
  refine ⟨[some (.hot S.length), x, y, some (.str e.1), some e.2], [some (.hot S.length), x, y, some (.str e.1), some e.2], rfl, ?_, ⟨_, _, rfl⟩⟩
  show fSeq _ _ _ (S ++ HotO.obj A.C_Package F :: stQ S.length (kidsP d1) (foldsP d1) (sortsP d1 "file") (sortsP d1 "folder") (sortsP d1 "reference")) = .nx _ (S ++ HotO.obj A.C_Package F :: stQ S.length (kidsP (d1 ++ [e])) (foldsP (d1 ++ [e])) _ _ _)
  unfold fSeq
  rw [init_kid A hF hW hf hn]
  dsimp only [Flow.seq]
  rw [init_sort A hF2 hf hn]
  dsimp only
  rw [folds_snoc]
  by_cases h0 : e.2 = .non
  · have h1 : isNoneD e.2 = true := by rw [h0]; rfl
    rw [if_pos h1]
    refine Eq.trans ?_ (init_fold A hF hW.new hW.ne hW.kid (Nat.le_trans (folds_le d1) hn))
    unfold fIf tst
    simp [h0, opIsN]
  · have h1 : ¬ isNoneD e.2 = true := by intro z; cases h : e.2 <;> rw [h] at z <;> first | (cases z; done) | exact h0 h
    rw [if_neg h1, List.append_nil]
    unfold fIf tst
    cases h : e.2 <;> first | exact absurd h h0 | simp [opIsN]
theorem ex_Package___init__ (A : Ad) : ∃ m : List D → Sto → Res D, (∀ {P : Program} {w : World} {K : PySem.W.Frag} {mg : Str → Option Value} {base : Heap}, Txt P w K mg base A → FnOk P w K mg base (L2.CX P w) 7 A.Package___init__ A.fd_Package___init__ ["self", "entries"] (spF 2 m)) ∧
(∀ (es : List (Str × D)) (S : Sto), LowS S.length S → es.length ≤ 200 → (∀ e ∈ es, e.1.length ≤ 50000) → (∀ e ∈ es, ∀ z, e.2 = .str z → z.length ≤ 50000) → (∀ e ∈ es, (tyN e.2).isSome = true) →
  (∀ p, badE es = some p → m [.hot S.length, .dic (kv es)] (S ++ [.obj A.C_Package []]) = .exc A.C_BadEntry [("path", .str p)] (S ++ [.obj A.C_Package []])) ∧
  (badE es = none → (pathsE es).length ≤ 1000 → (∀ p ∈ pathsE es, p.length ≤ 50000) → (∀ e ∈ compE es, okItem e.2 = true) → 40 < (compE es).length → m [.hot S.length, .dic (kv es)] (S ++ [.obj A.C_Package []]) = .exc A.C_TooMany [("limit", .int 40)] (S ++ [.obj A.C_Package [("rows", .dic (kv (compE es)))]])) ∧
  (badE es = none → (pathsE es).length ≤ 1000 → (∀ p ∈ pathsE es, p.length ≤ 50000) → (∀ e ∈ compE es, Fit e) → WellC (compE es) → (compE es).length ≤ 40 → m [.hot S.length, .dic (kv es)] (S ++ [.obj A.C_Package []]) = .ok .non (S ++ .obj A.C_Package [("rows", .dic (kv (compE es))), ("text", .str (showE (compE es))), ("parts", .hot (S.length + 2)), ("sorts", .hot (S.length + 6))] :: stP S.length (compE es)))) ∧
(∀ S : Sto, LowS S.length S → m [.hot S.length, .non] (S ++ [.obj A.C_Package []]) = .ok .non (S ++ .obj A.C_Package [("rows", .dic (kv [])), ("text", .str (showE [])), ("parts", .hot (S.length + 2)), ("sorts", .hot (S.length + 6))] :: stP S.length [])) := by
  refine ⟨(runF ["self", "entries", "given", "path", "item"] _), fun {P w K mg base} T => fndD (k := 6) _ T.F_Package___init__ sc_Package___init__ (fun cdv A' outer s H E hr => ⟨_, _, (dss_cons (ds_set 2 sc_Package___init__.nd (de_if (dt_cmp (op_isN) (v_isN) (de_var 1) de_non rfl) (de_stl de_dnew) (de_var 1)))
  (dss_cons (ds_expr (de_call (ok_look_entries T) (hr.mono (by decide)) T.g_look_entries T.k_look_entries T.b_look_entries pass_fn (da_cons (de_var 2) da_nil)))
  (dss_cons (ds_fld (K := K) T.cl_Package T.na_Package_rows (de_var 0) (de_stl (de_call (ok_completed T) (hr.mono (by decide)) T.g_completed T.k_completed T.b_completed pass_fn (da_cons (de_var 2) da_nil))))
  (dss_cons (ds_if (dt_cmp (op_gt) (v_gt) (de_callB v_lenD cr_lenK T.m_len boot_len (da_cons (de_fld (K := K) T.cl_Package T.na_Package_rows (de_var 0)) da_nil)) (de_cval T.cr_Package T.cv_Package_LIMIT (d := .int 40) (fun _ _ => rfl) (de_gRef T.g_Package)) rfl) (dss_one (ds_raiseB T.x_TooMany (hr.mono (by decide)) takes_fn rfl (da_cons (de_cval T.cr_Package T.cv_Package_LIMIT (d := .int 40) (fun _ _ => rfl) (de_gRef T.g_Package)) da_nil))) dss_nil)
  (dss_cons (ds_fld (K := K) T.cl_Package T.na_Package_text (de_var 0) (de_call (ok_show_entries T) (hr.mono (by decide)) T.g_show_entries T.k_show_entries T.b_show_entries pass_fn (da_cons (de_fld (K := K) T.cl_Package T.na_Package_rows (de_var 0)) da_nil)))
  (dss_cons (ds_fld (K := K) T.cl_Package T.na_Package_parts (de_var 0) (de_disp (dps_cons (de_gStr T.g_ROOT) (de_lstH da_nil) dps_nil)))
  (dss_cons (ds_fld (K := K) T.cl_Package T.na_Package_sorts (de_var 0) (de_disp (dps_cons (de_gStr T.g_FILE) (de_lstH da_nil) (dps_cons (de_gStr T.g_FOLDER) (de_lstH da_nil) (dps_cons (de_gStr T.g_REFERENCE) (de_lstH da_nil) dps_nil)))))
  (dss_one (ds_for (g := gTup K 2 (gCons (gName 3) (gCons (gName 4) gNil))) own_fn (di_items (de_fld (K := K) T.cl_Package T.na_Package_rows (de_var 0))) (pg_tup rfl (pgs_cons (pg_name (i := 3) sc_Package___init__.nd rfl (by first | exact Or.inl rfl | exact Or.inr rfl)) (pgs_cons (pg_name (i := 4) sc_Package___init__.nd rfl (by first | exact Or.inl rfl | exact Or.inr rfl)) pgs_nil))) (sog_pair K 3 4) (dss_cons (ds_expr (de_append (K := K) (de_dget hr.units (de_fld (K := K) T.cl_Package T.na_Package_parts (de_var 0)) (de_call (ok_parent_in T) (hr.mono (by decide)) T.g_parent_in T.k_parent_in T.b_parent_in pass_fn (da_cons (de_var 3) da_nil))) (de_ix (K := K) (de_call (ok_names_in T) (hr.mono (by decide)) T.g_names_in T.k_names_in T.b_names_in pass_fn (da_cons (de_var 3) da_nil)) (de_neg de_int))))
  (dss_cons (ds_expr (de_append (K := K) (de_dget hr.units (de_fld (K := K) T.cl_Package T.na_Package_sorts (de_var 0)) (de_call (ok_kind_of T) (hr.mono (by decide)) T.g_kind_of T.k_kind_of T.b_kind_of pass_fn (da_cons (de_var 4) da_nil))) (de_var 3)))
  (dss_one (ds_if (dt_cmp (op_isN) (v_isN) (de_var 4) de_non rfl) (dss_one (ds_dput hr.units (de_lstH da_nil) (de_fld (K := K) T.cl_Package T.na_Package_parts (de_var 0)) (de_var 3))) dss_nil))))))))))))), fun ds S hl => Or.inr rfl⟩), ?_⟩
  refine ⟨?A, ?B⟩
  case B =>
    intro S hS
    have hb : badE [] = none := by simp [badE, sortS, sortP]
    have hl := sp_look_entries A [] (S ++ [.obj A.C_Package []]) (by simp) (fun _ h => nomatch h) (fun _ h => nomatch h) (fun _ h => nomatch h)
    rw [hb] at hl
    have hc := sp_completed A [] (S ++ [.obj A.C_Package []]) (by simp [pathsE]) (fun _ h => by simp [pathsE] at h)
    have ec : compE [] = [] := by simp [compE, sortP, pathsE]
    rw [ec] at hc
    have hf := stl_dic (S := S ++ [.obj A.C_Package []]) (l := kv []) (lowS_push hS rfl) rfl
    have el : (S ++ [HotO.obj A.C_Package []]).length = S.length + 1 := by simp
    rw [el] at hc hf
    have hsh := sp_show_entries A [] (S ++ [.obj A.C_Package [("rows", .dic (kv []))]]) (by simp) (fun _ h => nomatch h)
    have n1 : Str.ofString "rows" ≠ Str.ofString "text" := by decide +kernel
    have n2 : Str.ofString "rows" ≠ Str.ofString "parts" := by decide +kernel
    have n3 : Str.ofString "text" ≠ Str.ofString "parts" := by decide +kernel
    have n4 : Str.ofString "rows" ≠ Str.ofString "sorts" := by decide +kernel
    have n5 : Str.ofString "text" ≠ Str.ofString "sorts" := by decide +kernel
    have n6 : Str.ofString "parts" ≠ Str.ofString "sorts" := by decide +kernel
    have m1 : Str.ofString "file" ≠ Str.ofString "folder" := by decide +kernel
    have m2 : Str.ofString "file" ≠ Str.ofString "reference" := by decide +kernel
    have m3 : Str.ofString "folder" ≠ Str.ofString "reference" := by decide +kernel
    have kn : kv [] = [] := rfl
    rw [kn] at hl hc hf hsh
    simp only [runF]
    simp [opIsN, hl]
    have hf2 : stlD true (S.length + 1) (.ok (.hot (S.length + 1)) (S ++ [HotO.obj A.C_Package [], HotO.dic []])) = .ok (.dic []) (S ++ [HotO.obj A.C_Package []]) := by
      have := hf
      rw [List.append_assoc] at this
      exact this
    rw [hf2]
    simp [hl]
    rw [hc, hf]
    simp [hotO_new, set_new, vO_new, putFD, hsh, n1, n2, n3, n4, n5, n6, m1, m2, m3, keyAll, keyD, mergeA, putA, kn]
    rfl
  case A =>
  intro es S hS hn hk hz ht
  have hl := sp_look_entries A es (S ++ [.obj A.C_Package []]) hn hk hz ht
  refine ⟨fun p hb => ?_, fun hb h1 h2 h3 h4 => ?_, fun hb h1 h2 h3 hW h4 => ?_⟩
  · rw [hb] at hl
    simp only [runF]
    simp [hl]
  · rw [hb] at hl
    have hc := sp_completed A es (S ++ [.obj A.C_Package []]) h1 h2
    have hf := stl_dic (S := S ++ [.obj A.C_Package []]) (l := kv (compE es)) (lowS_push hS rfl) (low_items h3)
    have el : (S ++ [HotO.obj A.C_Package []]).length = S.length + 1 := by simp
    rw [el] at hc hf
    simp only [runF]
    simp [hl]
    rw [hc, hf]
    have h4' : (40 : Int) < (compE es).length := by omega
    simp [hotO_new, set_new, vO_new, putFD, h4', fldD]
  · rw [hb] at hl
    have hc := sp_completed A es (S ++ [.obj A.C_Package []]) h1 h2
    have hf := stl_dic (S := S ++ [.obj A.C_Package []]) (l := kv (compE es)) (lowS_push hS rfl) (low_items fun e he => (h3 e he).item)
    have el : (S ++ [HotO.obj A.C_Package []]).length = S.length + 1 := by simp
    rw [el] at hc hf
    have hsh := sp_show_entries A (compE es) (S ++ [.obj A.C_Package [("rows", .dic (kv (compE es)))]]) (by omega) h3
    have h4' : ¬ (40 : Int) < (compE es).length := by omega
    simp only [runF]
    simp [hl]
    rw [hc, hf]
    have n1 : Str.ofString "rows" ≠ Str.ofString "text" := by decide +kernel
    have n2 : Str.ofString "rows" ≠ Str.ofString "parts" := by decide +kernel
    have n3 : Str.ofString "text" ≠ Str.ofString "parts" := by decide +kernel
    have n4 : Str.ofString "rows" ≠ Str.ofString "sorts" := by decide +kernel
    have n5 : Str.ofString "text" ≠ Str.ofString "sorts" := by decide +kernel
    have n6 : Str.ofString "parts" ≠ Str.ofString "sorts" := by decide +kernel
    have m1 : Str.ofString "file" ≠ Str.ofString "folder" := by decide +kernel
    have m2 : Str.ofString "file" ≠ Str.ofString "reference" := by decide +kernel
    have m3 : Str.ofString "folder" ≠ Str.ofString "reference" := by decide +kernel
    simp [hotO_new, set_new, vO_new, putFD, h4', hsh, n1, n2, n3, n4, n5, n6, m1, m2, m3, keyAll, keyD, mergeA, putA]
    have b1 : (Str.ofString "parts" == Str.ofString "rows") = false := by decide +kernel
    have b2 : (Str.ofString "parts" == Str.ofString "text") = false := by decide +kernel
    have b3 : (Str.ofString "sorts" == Str.ofString "rows") = false := by decide +kernel
    have b4 : (Str.ofString "sorts" == Str.ofString "text") = false := by decide +kernel
    have b5 : (Str.ofString "sorts" == Str.ofString "parts") = false := by decide +kernel
    obtain ⟨ρ', -, hq⟩ := init_loop A (S := S) (F := [("rows", .dic (kv (compE es))), ("text", .str (showE (compE es))), ("parts", .hot (S.length + 2)), ("sorts", .hot (S.length + 6))]) (x := some (D.dic (kv es))) (y := some (D.dic (kv es))) (by simp [b1, b2, List.lookup]) (by simp [b3, b4, b5, List.lookup]) (compE es) (by omega) h3 hW
    generalize hG : forF _ _ _ _ _ = G
    obtain rfl := hG.symm.trans hq
    rfl
noncomputable def m_Package___init__ (A : Ad) : List D → Sto → Res D := Classical.choose (ex_Package___init__ A)
theorem ok_Package___init__ {P : Program} {w : World} {K : PySem.W.Frag} {mg : Str → Option Value} {base : Heap} {A : Ad} (T : Txt P w K mg base A) : FnOk P w K mg base (L2.CX P w) 7 A.Package___init__ A.fd_Package___init__ ["self", "entries"] (spF 2 (m_Package___init__ A)) := (Classical.choose_spec (ex_Package___init__ A)).1 T
theorem sp_Package___init__ (A : Ad) : (∀ (es : List (Str × D)) (S : Sto), LowS S.length S → es.length ≤ 200 → (∀ e ∈ es, e.1.length ≤ 50000) → (∀ e ∈ es, ∀ z, e.2 = .str z → z.length ≤ 50000) → (∀ e ∈ es, (tyN e.2).isSome = true) →
  (∀ p, badE es = some p → (m_Package___init__ A) [.hot S.length, .dic (kv es)] (S ++ [.obj A.C_Package []]) = .exc A.C_BadEntry [("path", .str p)] (S ++ [.obj A.C_Package []])) ∧
  (badE es = none → (pathsE es).length ≤ 1000 → (∀ p ∈ pathsE es, p.length ≤ 50000) → (∀ e ∈ compE es, okItem e.2 = true) → 40 < (compE es).length → (m_Package___init__ A) [.hot S.length, .dic (kv es)] (S ++ [.obj A.C_Package []]) = .exc A.C_TooMany [("limit", .int 40)] (S ++ [.obj A.C_Package [("rows", .dic (kv (compE es)))]])) ∧
  (badE es = none → (pathsE es).length ≤ 1000 → (∀ p ∈ pathsE es, p.length ≤ 50000) → (∀ e ∈ compE es, Fit e) → WellC (compE es) → (compE es).length ≤ 40 → (m_Package___init__ A) [.hot S.length, .dic (kv es)] (S ++ [.obj A.C_Package []]) = .ok .non (S ++ .obj A.C_Package [("rows", .dic (kv (compE es))), ("text", .str (showE (compE es))), ("parts", .hot (S.length + 2)), ("sorts", .hot (S.length + 6))] :: stP S.length (compE es)))) ∧
(∀ S : Sto, LowS S.length S → (m_Package___init__ A) [.hot S.length, .non] (S ++ [.obj A.C_Package []]) = .ok .non (S ++ .obj A.C_Package [("rows", .dic (kv [])), ("text", .str (showE [])), ("parts", .hot (S.length + 2)), ("sorts", .hot (S.length + 6))] :: stP S.length [])) := (Classical.choose_spec (ex_Package___init__ A)).2
end KL
set_option Elab.async false
set_option linter.all false
set_option maxRecDepth 100000
set_option maxHeartbeats 4000000
set_option autoImplicit false
namespace KL
open PySem PySem.Spec PyProof.Rows L2 DL
theorem ex_look_path (A : Ad) : ∃ m : List D → Sto → Res D, (∀ {P : Program} {w : World} {K : PySem.W.Frag} {mg : Str → Option Value} {base : Heap}, Txt P w K mg base A → FnOk P w K mg base (L2.CX P w) 3 A.look_path A.fd_look_path ["path"] (spF 1 m)) ∧
(∀ d S, (m_is_path A [d] S = .ok (.bl true) S → m [d] S = .ok .non S) ∧ (m_is_path A [d] S = .ok (.bl false) S → m [d] S = .exc A.C_BadPath [("path", d)] S)) := by
  refine ⟨(runF ["path"] _), fun {P w K mg base} T => fnd (k := 2) _ T.F_look_path sc_look_path (fun cdv A' outer s H E hr => ⟨_, _, (dss_one (ds_if (dt_not (dt_val (de_call (ok_is_path T) (hr.mono (by decide)) T.g_is_path T.k_is_path T.b_is_path pass_fn (da_cons (de_var 0) da_nil)))) (dss_one (ds_raise T.x_BadPath (hr.mono (by decide)) takes_fn rfl (da_cons (de_var 0) da_nil))) dss_nil)), fun ds S hl => Or.inr rfl⟩), ?_⟩
  intro d S
  exact ⟨fun h => by simp [h], fun h => by simp [h]; rfl⟩
noncomputable def m_look_path (A : Ad) : List D → Sto → Res D := Classical.choose (ex_look_path A)
theorem ok_look_path {P : Program} {w : World} {K : PySem.W.Frag} {mg : Str → Option Value} {base : Heap} {A : Ad} (T : Txt P w K mg base A) : FnOk P w K mg base (L2.CX P w) 3 A.look_path A.fd_look_path ["path"] (spF 1 (m_look_path A)) := (Classical.choose_spec (ex_look_path A)).1 T
theorem sp_look_path (A : Ad) : (∀ d S, (m_is_path A [d] S = .ok (.bl true) S → (m_look_path A) [d] S = .ok .non S) ∧ (m_is_path A [d] S = .ok (.bl false) S → (m_look_path A) [d] S = .exc A.C_BadPath [("path", d)] S)) := (Classical.choose_spec (ex_look_path A)).2
theorem ex_names_of (A : Ad) : ∃ m : List D → Sto → Res D, (∀ {P : Program} {w : World} {K : PySem.W.Frag} {mg : Str → Option Value} {base : Heap}, Txt P w K mg base A → FnOk P w K mg base (L2.CX P w) 4 A.names_of A.fd_names_of ["path"] (spF 1 m)) ∧
(∀ d S, (m_is_path A [d] S = .ok (.bl false) S → m [d] S = .exc A.C_BadPath [("path", d)] S) ∧ ∀ z, d = .str z → z.length ≤ 50000 → isPt z = true → m [d] S = .ok (.tup ((namesL z).map .str)) S) := by
  refine ⟨(runF ["path"] _), fun {P w K mg base} T => fnd (k := 3) _ T.F_names_of sc_names_of (fun cdv A' outer s H E hr => ⟨_, _, (dss_cons (ds_expr (de_call (ok_look_path T) (hr.mono (by decide)) T.g_look_path T.k_look_path T.b_look_path pass_fn (da_cons (de_var 0) da_nil)))
  (dss_one (ds_ret (de_call (ok_names_in T) (hr.mono (by decide)) T.g_names_in T.k_names_in T.b_names_in pass_fn (da_cons (de_var 0) da_nil))))), fun ds S hl => Or.inr rfl⟩), ?_⟩
  intro d S
  refine ⟨fun h => by simp [(sp_look_path A d S).2 h], fun z hz hl hp => ?_⟩
  subst hz
  have h1 := ((sp_is_path A).1 S).1 z hl
  rw [hp] at h1
  have h2 := (sp_look_path A (.str z) S).1 h1
  have h3 := sp_names_in A z S hl
  generalize D.tup ((namesL z).map .str) = R at *
  simp [h2, h3]
noncomputable def m_names_of (A : Ad) : List D → Sto → Res D := Classical.choose (ex_names_of A)
theorem ok_names_of {P : Program} {w : World} {K : PySem.W.Frag} {mg : Str → Option Value} {base : Heap} {A : Ad} (T : Txt P w K mg base A) : FnOk P w K mg base (L2.CX P w) 4 A.names_of A.fd_names_of ["path"] (spF 1 (m_names_of A)) := (Classical.choose_spec (ex_names_of A)).1 T
theorem sp_names_of (A : Ad) : (∀ d S, (m_is_path A [d] S = .ok (.bl false) S → (m_names_of A) [d] S = .exc A.C_BadPath [("path", d)] S) ∧ ∀ z, d = .str z → z.length ≤ 50000 → isPt z = true → (m_names_of A) [d] S = .ok (.tup ((namesL z).map .str)) S) := (Classical.choose_spec (ex_names_of A)).2
abbrev repr0 : Str := "Package(0 files, 0 folders, 0 references)"
theorem ex_Package___repr__ (A : Ad) : ∃ m : List D → Sto → Res D, (∀ {P : Program} {w : World} {K : PySem.W.Frag} {mg : Str → Option Value} {base : Heap}, Txt P w K mg base A → FnOk P w K mg base (L2.CX P w) 1 A.Package___repr__ A.fd_Package___repr__ ["self"] (spF 1 m)) ∧
(∀ S, m [pkgD A.C_Package []] S = .ok (.str repr0) S) := by
  refine ⟨(runF ["self", "files", "folders", "references", "kind"] _), fun {P w K mg base} T => fndD (k := 0) _ T.F_Package___repr__ sc_Package___repr__ (fun cdv A' outer s H E hr => ⟨_, _, (dss_cons (ds_put (g := gUnl K 3 (gCons (gName 1) (gCons (gName 2) (gCons (gName 3) gNil)))) (de_lc (own := [("kind", 4)]) (g := gName 4) ⟨blkOk_by (own := [("kind", 4)]) (N := ["self", "files", "folders", "references", "kind"]) (sc := defScope s_Package___repr__) (by decide +kernel), fun _ _ _ _ _ => pg_name (i := 4) sc_Package___repr__.nd rfl (by first | exact Or.inl rfl | exact Or.inr rfl), fun _ _ _ _ _ => (by exact dts_nil), fun _ _ _ _ _ => (by exact (de_callB (v_len K) cr_lenA T.m_len boot_len (da_cons (de_dget hr.units (de_fld (K := K) T.cl_Package T.na_Package_sorts (de_var 0)) (de_var 4)) da_nil))), ⟨[4], sog_name 4, by decide⟩⟩ (di_tup (K := K) (de_tup (da_cons (de_gStr T.g_FILE) (da_cons (de_gStr T.g_FOLDER) (da_cons (de_gStr T.g_REFERENCE) da_nil))))) rfl sc_Package___repr__.nd) (pg_unl rfl (pgs_cons (pg_name (i := 1) sc_Package___repr__.nd rfl (by first | exact Or.inl rfl | exact Or.inr rfl)) (pgs_cons (pg_name (i := 2) sc_Package___repr__.nd rfl (by first | exact Or.inl rfl | exact Or.inr rfl)) (pgs_cons (pg_name (i := 3) sc_Package___repr__.nd rfl (by first | exact Or.inl rfl | exact Or.inr rfl)) pgs_nil)))) (sog_three K 1 2 3))
  (dss_one (ds_ret (de_joined (dj_cons de_str (dj_cons (de_fmt (de_var 1)) (dj_cons de_str (dj_cons (de_fmt (de_var 2)) (dj_cons de_str (dj_cons (de_fmt (de_var 3)) (dj_cons de_str dj_nil))))))))))), fun ds S hl => Or.inr rfl⟩), ?_⟩
  intro S
  have hv : vO S (pkgD A.C_Package []) = some (A.C_Package, fldsD []) := rfl
  have hs : (fldsD []).lookup ("sorts" : Str) = some (.dic (sortsD [])) := by
    unfold fldsD
    have b1 : (Str.ofString "sorts" == Str.ofString "rows") = false := by decide +kernel
    have b2 : (Str.ofString "sorts" == Str.ofString "text") = false := by decide +kernel
    have b3 : (Str.ofString "sorts" == Str.ofString "parts") = false := by decide +kernel
    simp [List.lookup, b1, b2, b3]
  generalize pkgD A.C_Package [] = x at *
  simp only [runF]
  simp
  rw [lcomp_map (S' := S) [.str "file", .str "folder", .str "reference"] (fun _ => .int 0)]
  · have e : (Str.ofString "Package(" ++ Str.ofString (Int.repr 0) ++ Str.ofString " files, " ++ Str.ofString (Int.repr 0) ++ Str.ofString " folders, " ++ Str.ofString (Int.repr 0) ++ Str.ofString " references)") = repr0 := by decide +kernel
    simp [fmtD]
    rw [if_pos (by decide +kernel), if_pos (by decide +kernel), if_pos (by decide +kernel), if_pos (by decide +kernel), if_pos (by decide +kernel), if_pos (by decide +kernel), if_pos (by decide +kernel), e]
    rfl
  · simp
  · simp
  · intro d hd
    refine ⟨_, rfl, rfl, ?_⟩
    have hlk : lookD S (.dic (sortsD [])) d = some (some (.lst [])) := by
      have m1 : Str.ofString "file" ≠ Str.ofString "folder" := by decide +kernel
      have m2 : Str.ofString "file" ≠ Str.ofString "reference" := by decide +kernel
      have m3 : Str.ofString "folder" ≠ Str.ofString "reference" := by decide +kernel
      simp only [List.mem_cons, List.not_mem_nil, or_false] at hd
      rcases hd with rfl | rfl | rfl
      · simp [lookD, sortsD, sortsP, getA, List.find?, m1, m2, m3]
      · simp [lookD, sortsD, sortsP, getA, List.find?, m1, m2, m3]
      · simp [lookD, sortsD, sortsP, getA, List.find?, m1, m2, m3]
    simp [hv, hs, hlk]
noncomputable def m_Package___repr__ (A : Ad) : List D → Sto → Res D := Classical.choose (ex_Package___repr__ A)
theorem ok_Package___repr__ {P : Program} {w : World} {K : PySem.W.Frag} {mg : Str → Option Value} {base : Heap} {A : Ad} (T : Txt P w K mg base A) : FnOk P w K mg base (L2.CX P w) 1 A.Package___repr__ A.fd_Package___repr__ ["self"] (spF 1 (m_Package___repr__ A)) := (Classical.choose_spec (ex_Package___repr__ A)).1 T
theorem sp_Package___repr__ (A : Ad) : (∀ S, (m_Package___repr__ A) [pkgD A.C_Package []] S = .ok (.str repr0) S) := (Classical.choose_spec (ex_Package___repr__ A)).2
theorem atI_mem' {ns : List Int} {k : Int} (h1 : 0 ≤ k) (h2 : k < ns.length) : ∃ c, atI ns k = some c := by
  unfold atI ixN
  rw [if_pos h1, if_pos h2]
  exact ⟨_, List.getElem?_eq_getElem (by omega)⟩
theorem ex__law_bag (A : Ad) : ∃ m : List D → Sto → Res D, (∀ {P : Program} {w : World} {K : PySem.W.Frag} {mg : Str → Option Value} {base : Heap}, Txt P w K mg base A → FnOk P w K mg base (L2.CX P w) 1 A._law_bag A.fd__law_bag ["_law_script", "_law_at"] (spF 2 m)) ∧
(∀ (ns : List Int) (at' : Int) (S : Sto), 0 ≤ at' → at' < 100 → ∃ b : Bag, OkB b 0 ∧ m [.scr ns, .int at'] S = .ok (.hot S.length) (S ++ [bagO b])) := by
  refine ⟨(runF ["_law_script", "_law_at", "_law_cell", "_law_digits"] _), fun {P w K mg base} T => fnd (k := 0) _ T.F__law_bag sc__law_bag (fun cdv A' outer s H E hr => ⟨_, _, (dss_cons (ds_set 2 sc__law_bag.nd (de_if (dt_cmp (op_lt) (v_lt) (de_var 1) (de_callB (v_len K) cr_lenA T.m_len boot_len (da_cons (de_var 0) da_nil)) rfl) (de_ix (K := K) (de_var 0) (de_var 1)) de_int))
  (dss_cons (ds_set 3 sc__law_bag.nd (de_if (dt_cmp (op_ge) (v_ge) (de_callB v_abs call_abs T.m_abs (by decide +kernel) (da_cons (de_var 2) da_nil)) (de_op op_pow v_pow de_int de_int) rfl) (de_callB v_abs call_abs T.m_abs (by decide +kernel) (da_cons (de_var 2) da_nil)) de_int))
  (dss_one (ds_ret (de_lstH (da_cons (de_var 3) (da_cons (de_op op_mod v_mod (de_op or_add v_add (de_op or_add v_add (de_op op_mul v_mul (de_op op_mod v_mod (de_callTy v_int call_int1 T.m_int (by decide +kernel) (da_cons (de_var 2) da_nil)) de_int) de_int) (de_op op_mul v_mul de_int (de_var 1))) de_int) de_int) (da_cons de_int da_nil)))))))), fun ds S hl => Or.inr rfl⟩), ?_⟩
  intro ns k S h1 h2
  have hm : ∀ x : Int, (-18446744073709551616 < x % 2147483629 ∧ x % 2147483629 < 18446744073709551616) := fun x => by
    have := Int.emod_nonneg x (show (2147483629 : Int) ≠ 0 by decide)
    have := Int.emod_lt_of_pos x (show (0 : Int) < 2147483629 by decide)
    omega
  simp
  obtain ⟨c, hc⟩ : ∃ c : Int, (if k < (ns.length : Int) then lift (opIx S (D.scr ns) (D.int k)) S else Res.ok (D.int 0) S) = Res.ok (D.int c) S := by
    by_cases hk : k < (ns.length : Int)
    · obtain ⟨c, hc⟩ := atI_mem' h1 hk
      exact ⟨c, by simp [hk, opIx, hc]⟩
    · exact ⟨0, by simp [hk]⟩
  rw [hc]
  have h10 : Int.natAbs 10 < 18446744073709551616 := by decide
  have hy : ∀ x : Int, 0 ≤ x % 2147483647 ∧ x % 2147483647 < 2305843009213693951 := fun x => by
    have := Int.emod_nonneg x (show (2147483647 : Int) ≠ 0 by decide)
    have := Int.emod_lt_of_pos x (show (0 : Int) < 2147483647 by decide)
    omega
  by_cases hb : (1000000000000000000 : Int) ≤ (if c < 0 then -c else c)
  · simp [fAbs, opPow, fInt1, opMod, opMul, h10, hb, hm]
    exact ⟨⟨_, _, 0⟩, ⟨(hy _).1, (hy _).2, Int.le_refl _, Int.le_refl _⟩, rfl⟩
  · simp [fAbs, opPow, fInt1, opMod, opMul, h10, hb, hm]
    exact ⟨⟨_, _, 0⟩, ⟨(hy _).1, (hy _).2, Int.le_refl _, Int.le_refl _⟩, rfl⟩
noncomputable def m__law_bag (A : Ad) : List D → Sto → Res D := Classical.choose (ex__law_bag A)
theorem ok__law_bag {P : Program} {w : World} {K : PySem.W.Frag} {mg : Str → Option Value} {base : Heap} {A : Ad} (T : Txt P w K mg base A) : FnOk P w K mg base (L2.CX P w) 1 A._law_bag A.fd__law_bag ["_law_script", "_law_at"] (spF 2 (m__law_bag A)) := (Classical.choose_spec (ex__law_bag A)).1 T
theorem sp__law_bag (A : Ad) : (∀ (ns : List Int) (at' : Int) (S : Sto), 0 ≤ at' → at' < 100 → ∃ b : Bag, OkB b 0 ∧ (m__law_bag A) [.scr ns, .int at'] S = .ok (.hot S.length) (S ++ [bagO b])) := (Classical.choose_spec (ex__law_bag A)).2
theorem ex__law_take (A : Ad) : ∃ m : List D → Sto → Res D, (∀ {P : Program} {w : World} {K : PySem.W.Frag} {mg : Str → Option Value} {base : Heap}, Txt P w K mg base A → FnOk P w K mg base (L2.CX P w) 1 A._law_take A.fd__law_take ["_law_bag_here", "_law_many"] (spF 2 m)) ∧
(∀ (L : Pl) (b : Bag) (k : Nat) (n : Int), OkB b k → k ≤ 1000000 → 0 < n → n < 100000 → ∃ v c, m [.hot L.i, .int n] (bg L b) = .ok (.int v) (bg L c) ∧ OkB c (k + 1) ∧ 0 ≤ v ∧ v < n) := by
  refine ⟨(runF ["_law_bag_here", "_law_many", "_law_digit"] _), fun {P w K mg base} T => fnd (k := 0) _ T.F__law_take sc__law_take (fun cdv A' outer s H E hr => ⟨_, _, (dss_cons (ds_if (dt_cmp (op_gt) (v_gt) (de_ix (K := K) (de_var 0) de_int) de_int rfl) (dss_cons (ds_set 2 sc__law_take.nd (de_op op_mod v_mod (de_callTy v_int call_int1 T.m_int (by decide +kernel) (da_cons (de_ix (K := K) (de_var 0) de_int) da_nil)) (de_var 1)))
  (dss_cons (ds_setIx (de_op op_fdiv v_fdiv (de_ix (K := K) (de_var 0) de_int) (de_var 1)) (de_var 0) de_int)
  (dss_one (ds_ret (de_var 2))))) dss_nil)
  (dss_cons (ds_setIx (de_op or_add v_add (de_ix (K := K) (de_var 0) de_int) de_int) (de_var 0) de_int)
  (dss_cons (ds_setIx (de_op op_mod v_mod (de_op or_add v_add (de_op or_add v_add (de_op op_mul v_mul (de_callTy v_int call_int1 T.m_int (by decide +kernel) (da_cons (de_ix (K := K) (de_var 0) de_int) da_nil)) de_int) (de_op op_mul v_mul de_int (de_ix (K := K) (de_var 0) de_int))) de_int) de_int) (de_var 0) de_int)
  (dss_one (ds_ret (de_op op_mod v_mod (de_op op_fdiv v_fdiv (de_op op_mod v_mod (de_callTy v_int call_int1 T.m_int (by decide +kernel) (da_cons (de_op op_pow v_pow (de_op op_fdiv v_fdiv (de_ix (K := K) (de_var 0) de_int) de_int) de_int) da_nil)) de_int) de_int) (de_var 1))))))), fun ds S hl => Or.inr rfl⟩), ?_⟩
  intro L b k n ⟨y0, y1, z0, z1⟩ hk h1 h2
  have h3 : n < 1073741824 := by omega
  by_cases hx : 0 < b.x
  · refine ⟨b.x % n, ⟨b.x / n, b.y, b.z⟩, ?_, ⟨y0, y1, z0, by simp; omega⟩, Int.emod_nonneg _ (by omega), Int.emod_lt_of_pos _ h1⟩
    simp [opIx, atI, ixN, hx, fInt1, opMod, opFdiv, h1, h2, h3, set_bag]
  · have q1 := Int.emod_nonneg (b.y * 48271 + 3571 * (b.z + 1) + 7) (show (2147483647 : Int) ≠ 0 by decide)
    have q2 := Int.emod_lt_of_pos (b.y * 48271 + 3571 * (b.z + 1) + 7) (show (0 : Int) < 2147483647 by decide)
    have hb : ((b.y * 48271 + 3571 * (b.z + 1) + 7) % 2147483647 / 8).natAbs < 18446744073709551616 := by omega
    refine ⟨((b.y * 48271 + 3571 * (b.z + 1) + 7) % 2147483647 / 8) ^ 3 % 2147483579 / 4 % n, ⟨b.x, (b.y * 48271 + 3571 * (b.z + 1) + 7) % 2147483647, b.z + 1⟩, ?_, ⟨q1, Int.lt_trans q2 (by decide), by dsimp only; omega, by dsimp only; omega⟩, Int.emod_nonneg _ (Int.ne_of_gt h1), Int.emod_lt_of_pos _ h1⟩
    simp [opIx, atI, ixN, hx, fInt1, opMod, opFdiv, opMul, opPow, h1, h2, h3, set_bag, hb]
noncomputable def m__law_take (A : Ad) : List D → Sto → Res D := Classical.choose (ex__law_take A)
theorem ok__law_take {P : Program} {w : World} {K : PySem.W.Frag} {mg : Str → Option Value} {base : Heap} {A : Ad} (T : Txt P w K mg base A) : FnOk P w K mg base (L2.CX P w) 1 A._law_take A.fd__law_take ["_law_bag_here", "_law_many"] (spF 2 (m__law_take A)) := (Classical.choose_spec (ex__law_take A)).1 T
theorem sp__law_take (A : Ad) : (∀ (L : Pl) (b : Bag) (k : Nat) (n : Int), OkB b k → k ≤ 1000000 → 0 < n → n < 100000 → ∃ v c, (m__law_take A) [.hot L.i, .int n] (bg L b) = .ok (.int v) (bg L c) ∧ OkB c (k + 1) ∧ 0 ≤ v ∧ v < n) := (Classical.choose_spec (ex__law_take A)).2
theorem ex__law_pick (A : Ad) : ∃ m : List D → Sto → Res D, (∀ {P : Program} {w : World} {K : PySem.W.Frag} {mg : Str → Option Value} {base : Heap}, Txt P w K mg base A → FnOk P w K mg base (L2.CX P w) 2 A._law_pick A.fd__law_pick ["_law_bag_here", "_law_some"] (spF 2 m)) ∧
(∀ (L : Pl) (b : Bag) (k : Nat), OkB b k → k ≤ 1000000 → (∀ l : List D, l ≠ [] → l.length < 1000 → ∃ x c, m [.hot L.i, .lst l] (bg L b) = .ok x (bg L c) ∧ OkB c (k + 1) ∧ x ∈ l) ∧ (∀ z : Str, 0 < z.length → z.length < 1000 → ∃ x c, m [.hot L.i, .str z] (bg L b) = .ok (.str ⟨#[x]⟩) (bg L c) ∧ OkB c (k + 1) ∧ x ∈ z.cps.toList)) := by
  refine ⟨(runF ["_law_bag_here", "_law_some"] _), fun {P w K mg base} T => fnd (k := 1) _ T.F__law_pick sc__law_pick (fun cdv A' outer s H E hr => ⟨_, _, (dss_one (ds_ret (de_ix (K := K) (de_var 1) (de_call (ok__law_take T) (hr.mono (by decide)) T.g__law_take T.k__law_take T.b__law_take pass_fn (da_cons (de_var 0) (da_cons (de_callB (v_len K) cr_lenA T.m_len boot_len (da_cons (de_var 1) da_nil)) da_nil)))))), fun ds S hl => Or.inr rfl⟩), ?_⟩
  intro L b k ob hk
  refine ⟨fun l h1 h2 => ?_, fun z h1 h2 => ?_⟩
  · have hp : 0 < l.length := List.length_pos_iff.mpr h1
    obtain ⟨v, c, e, oc, v0, v1⟩ := sp__law_take A L b k (l.length : Int) ob hk (by omega) (by omega)
    obtain ⟨x, ex, hx⟩ := atI_in v0 v1
    refine ⟨x, c, ?_, oc, hx⟩
    simp [e, opIx, ex]
  · obtain ⟨v, c, e, oc, v0, v1⟩ := sp__law_take A L b k (z.length : Int) ob hk (by omega) (by omega)
    have h5 : z.length ≤ 100000 := by omega
    obtain ⟨x, ex, hx⟩ := atI_in (l := z.cps.toList) v0 (by rw [Array.length_toList]; exact v1)
    refine ⟨x, c, ?_, oc, hx⟩
    simp [e, opIx, ex, h5]
noncomputable def m__law_pick (A : Ad) : List D → Sto → Res D := Classical.choose (ex__law_pick A)
theorem ok__law_pick {P : Program} {w : World} {K : PySem.W.Frag} {mg : Str → Option Value} {base : Heap} {A : Ad} (T : Txt P w K mg base A) : FnOk P w K mg base (L2.CX P w) 2 A._law_pick A.fd__law_pick ["_law_bag_here", "_law_some"] (spF 2 (m__law_pick A)) := (Classical.choose_spec (ex__law_pick A)).1 T
theorem sp__law_pick (A : Ad) : (∀ (L : Pl) (b : Bag) (k : Nat), OkB b k → k ≤ 1000000 → (∀ l : List D, l ≠ [] → l.length < 1000 → ∃ x c, (m__law_pick A) [.hot L.i, .lst l] (bg L b) = .ok x (bg L c) ∧ OkB c (k + 1) ∧ x ∈ l) ∧ (∀ z : Str, 0 < z.length → z.length < 1000 → ∃ x c, (m__law_pick A) [.hot L.i, .str z] (bg L b) = .ok (.str ⟨#[x]⟩) (bg L c) ∧ OkB c (k + 1) ∧ x ∈ z.cps.toList)) := (Classical.choose_spec (ex__law_pick A)).2
end KL
set_option Elab.async false
set_option linter.all false
set_option maxRecDepth 100000
set_option maxHeartbeats 4000000
set_option autoImplicit false
namespace KL
open PySem PySem.Spec PyProof.Rows L2 DL
theorem opEq_str (S : Sto) (s t : Str) : opEq S (.str s) (.str t) = some (.bl (decide (s = t))) := by
  simp [opEq, eqD, scD, scal]
theorem opNe_str (S : Sto) (s t : Str) : opNe S (.str s) (.str t) = some (.bl (!decide (s = t))) := by
  simp [opNe, eqD, scD, scal]
theorem eq_nil (S : Sto) {l : List Str} (h : ∀ s ∈ l, sane s) : opEq S (.lst (l.map .str)) (.lst []) = some (.bl l.isEmpty) := by
  have h1 := shaped_strs fun s hs => str_ok (h s hs)
  have h2 : SeqAt.shaped (.list []) = true := by decide +kernel
  have h3 : PyData.eqv (.list (l.map .str)) (.list []) = l.isEmpty := by cases l <;> rfl
  unfold opEq eqD
  simp [scD, toPy, toPys_strs, h1, toPys, h2, h3]
def notA (d : D) : Bool := match d with | .str x => !(decide ((x.cps.toList.headD 0) ∈ alpha.cps.toList)) | _ => false
theorem filt_chars (l : List Nat) : ((l.map fun c => D.str ⟨#[c]⟩).filter notA).map id = ((l.filter fun c => !decide (c ∈ alpha.cps.toList)).map fun c => (⟨#[c]⟩ : Str)).map D.str := by
  induction l with
  | nil => rfl
  | cons c l ih =>
    have e : notA (.str ⟨#[c]⟩) = !decide (c ∈ alpha.cps.toList) := rfl
    rw [List.map_cons, List.filter_cons, List.filter_cons, e]
    cases decide (c ∈ alpha.cps.toList)
    · simp only [Bool.not_false, if_true, List.map_cons]
      rw [ih]
      rfl
    · simpa using ih
theorem filt_all (l : List Nat) (p : Nat → Bool) : ((l.filter fun c => !p c).map fun c => (⟨#[c]⟩ : Str)).isEmpty = l.all p := by
  induction l with
  | nil => rfl
  | cons c l ih =>
    rw [List.filter_cons]
    cases h : p c
    · simp [h]
    · simpa [h] using ih
theorem ex__law_is_name (A : Ad) : ∃ m : List D → Sto → Res D, (∀ {P : Program} {w : World} {K : PySem.W.Frag} {mg : Str → Option Value} {base : Heap}, Txt P w K mg base A → FnOk P w K mg base (L2.CX P w) 1 A._law_is_name A.fd__law_is_name ["_law_thing"] (spF 1 m)) ∧
(∀ z S, z.length ≤ 100000 → sane z → m [.str z] S = .ok (.bl (isNm z)) S) ∧ (∀ d S, (tyN d).isSome = true → (∀ z, d ≠ .str z) → m [d] S = .ok (.bl false) S) ∧ (∀ fs S, m [.obj A.C_Package fs] S = .ok (.bl false) S) := by
  refine ⟨(runF ["_law_thing", "_law_sign"] _), fun {P w K mg base} T => fnd (k := 0) _ T.F__law_is_name sc__law_is_name (fun cdv A' outer s H E hr => ⟨_, _, (dss_cons (ds_if (dw_pt (dw_or (dt_not (dt_val (de_callB (v_isiG K T.isi) cr_isiK T.m_isinstance boot_isinstance (da_cons (de_var 0) (da_cons (de_ty "str" T.m_str (by decide +kernel)) da_nil))))) (dw_or1 (dt_not (dt_chain (op_le) (op_le) (v_le) (v_le) de_int (de_callB (v_len K) cr_lenA T.m_len boot_len (da_cons (de_var 0) da_nil)) de_int))))) (dss_one (ds_ret de_bl)) dss_nil)
  (dss_one (ds_ret (de_cmp (or_eq (K := K) hr.units) (v_eq K) (de_lc (own := [("_law_sign", 1)]) (g := gName 1) ⟨blkOk_by (own := [("_law_sign", 1)]) (N := ["_law_thing", "_law_sign"]) (sc := defScope s__law_is_name) (by decide +kernel), fun _ _ _ _ _ => pg_name (i := 1) sc__law_is_name.nd rfl (by first | exact Or.inl rfl | exact Or.inr rfl), fun _ _ _ _ _ => (by exact (dts_one (dt_cmp op_notIn_sign v_ninC (de_var 1) de_str rfl))), fun _ _ _ _ _ => (by exact (de_var 1)), ⟨[1], sog_name 1, by decide⟩⟩ (di_str (de_var 0)) rfl sc__law_is_name.nd) (de_lst da_nil) rfl)))), fun ds S hl => Or.inr rfl⟩), ?_⟩
  refine ⟨?_, fun d S hd hn => ?_, fun fs S => ?_⟩
  case refine_2 => cases d <;> first | (cases hd; done) | (exact absurd rfl (hn _)) | simp
  case refine_3 => simp
  intro z S hz hs
  have e2 : z.cps.size ≤ 100000 := hz
  by_cases h1 : (1 : Int) ≤ z.length
  · by_cases h8 : (z.length : Int) ≤ 8
    · have h1' : 1 ≤ z.length := by omega
      have h8' : z.length ≤ 8 := by omega
      simp [hz, h1, h8, isNm, h1', h8']
      rw [lcomp_filter (S' := S) (z.cps.toList.map fun c => .str ⟨#[c]⟩) notA id]
      · rw [filt_chars]
        have h := eq_nil S (l := (z.cps.toList.filter fun c => !decide (c ∈ alpha.cps.toList)).map fun c => (⟨#[c]⟩ : Str)) fun s hs' => by
          obtain ⟨c, hc, rfl⟩ := List.mem_map.mp hs'
          have hc := (List.mem_filter.mp hc).1
          intro x hx
          have : x = c := by simpa using hx
          rw [this]
          exact hs c hc
        rw [filt_all] at h
        simp only [Res.bind_ok]
        rw [h]
        simp
      · simp
      · simp; exact e2
      · intro d hd
        obtain ⟨c, _, rfl⟩ := List.mem_map.mp hd
        refine ⟨_, rfl, ?_, fun _ => by simp⟩
        simp [notA, opInC]
    · have h8' : ¬ z.length ≤ 8 := by omega
      simp [hz, h1, h8, isNm, h8']
  · have h1' : ¬ 1 ≤ z.length := by omega
    simp [hz, h1, isNm, h1']
noncomputable def m__law_is_name (A : Ad) : List D → Sto → Res D := Classical.choose (ex__law_is_name A)
theorem ok__law_is_name {P : Program} {w : World} {K : PySem.W.Frag} {mg : Str → Option Value} {base : Heap} {A : Ad} (T : Txt P w K mg base A) : FnOk P w K mg base (L2.CX P w) 1 A._law_is_name A.fd__law_is_name ["_law_thing"] (spF 1 (m__law_is_name A)) := (Classical.choose_spec (ex__law_is_name A)).1 T
theorem sp__law_is_name (A : Ad) : (∀ z S, z.length ≤ 100000 → sane z → (m__law_is_name A) [.str z] S = .ok (.bl (isNm z)) S) ∧ (∀ d S, (tyN d).isSome = true → (∀ z, d ≠ .str z) → (m__law_is_name A) [d] S = .ok (.bl false) S) ∧ (∀ fs S, (m__law_is_name A) [.obj A.C_Package fs] S = .ok (.bl false) S) := (Classical.choose_spec (ex__law_is_name A)).2
def notN (d : D) : Bool := match d with | .str x => !(isNm x) | _ => false
theorem filt_strs (l : List Str) (p : Str → Bool) (q : D → Bool) (h : ∀ s, q (.str s) = p s) : ((l.map D.str).filter q).map id = (l.filter p).map D.str := by
  induction l with
  | nil => rfl
  | cons c l ih =>
    rw [List.map_cons, List.filter_cons, List.filter_cons, h]
    cases p c
    · simpa using ih
    · simp only [if_true, List.map_cons]
      rw [ih]
      rfl
theorem filt_none (l : List Str) (p : Str → Bool) : (l.filter fun c => !p c).isEmpty = l.all p := by
  induction l with
  | nil => rfl
  | cons c l ih =>
    rw [List.filter_cons]
    cases h : p c
    · simp [h]
    · simpa [h] using ih
theorem slash_tl : TL.tl (Str.ofString "/") = [47] := by decide +kernel
theorem part_sane {z p : Str} (hs : sane z) (h : p ∈ parts z) : sane p := fun c hc => hs c (split_in slash_tl (by decide +kernel) h c hc)
theorem ex__law_is_path (A : Ad) : ∃ m : List D → Sto → Res D, (∀ {P : Program} {w : World} {K : PySem.W.Frag} {mg : Str → Option Value} {base : Heap}, Txt P w K mg base A → FnOk P w K mg base (L2.CX P w) 2 A._law_is_path A.fd__law_is_path ["_law_thing"] (spF 1 m)) ∧
(∀ z S, z.length ≤ 50000 → sane z → m [.str z] S = .ok (.bl (isPt z)) S) ∧ (∀ d S, (tyN d).isSome = true → (∀ z, d ≠ .str z) → m [d] S = .ok (.bl false) S) ∧ (∀ fs S, m [.obj A.C_Package fs] S = .ok (.bl false) S) := by
  refine ⟨(runF ["_law_thing", "_law_bits", "_law_part"] _), fun {P w K mg base} T => fnd (k := 1) _ T.F__law_is_path sc__law_is_path (fun cdv A' outer s H E hr => ⟨_, _, (dss_cons (ds_if (dt_not (dt_val (de_callB (v_isiG K T.isi) cr_isiK T.m_isinstance boot_isinstance (da_cons (de_var 0) (da_cons (de_ty "str" T.m_str (by decide +kernel)) da_nil))))) (dss_one (ds_ret de_bl)) dss_nil)
  (dss_cons (ds_set 1 sc__law_is_path.nd (de_split (de_var 0) de_str))
  (dss_one (ds_ret (de_or (de_cmp (or_eq (K := K) hr.units) (v_eq K) (de_var 0) de_str rfl) (de_one (de_cmp (or_eq (K := K) hr.units) (v_eq K) (de_lc (own := [("_law_part", 2)]) (g := gName 2) ⟨blkOk_by (own := [("_law_part", 2)]) (N := ["_law_thing", "_law_bits", "_law_part"]) (sc := defScope s__law_is_path) (by decide +kernel), fun _ _ _ _ _ => pg_name (i := 2) sc__law_is_path.nd rfl (by first | exact Or.inl rfl | exact Or.inr rfl), fun _ _ _ _ _ => (by exact (dts_one (dt_not (dt_val (de_call (ok__law_is_name T) (hr.mono (by decide)) T.g__law_is_name T.k__law_is_name T.b__law_is_name passN (da_cons (de_var 2) da_nil)))))), fun _ _ _ _ _ => (by exact (de_var 2)), ⟨[2], sog_name 2, by decide⟩⟩ (di_list (K := K) (de_var 1)) rfl sc__law_is_path.nd) (de_lst da_nil) rfl))))))), fun ds S hl => Or.inr rfl⟩), ?_⟩
  refine ⟨?_, fun d S hd hn => ?_, fun fs S => ?_⟩
  case refine_2 => cases d <;> first | (cases hd; done) | (exact absurd rfl (hn _)) | simp
  case refine_3 => simp
  intro z S hz hs
  have h5 : z.length ≤ 100000 := by omega
  by_cases h0 : z = ""
  · subst h0
    have e5 : (Str.ofString "").length ≤ 100000 := by decide +kernel
    simp [opEq_str, opSplit, isPt, e5]
  · have h0' : ¬ z = Str.ofString "" := h0
    simp [hz, h5, opEq_str, h0', isPt, opSplit]
    rw [lcomp_filter (S' := S) ((parts z).map .str) notN id]
    · rw [filt_strs (parts z) (fun s => !isNm s) notN fun s => rfl]
      have h := eq_nil S (l := (parts z).filter fun s => !isNm s) fun s hs' => part_sane hs (List.mem_filter.mp hs').1
      rw [filt_none] at h
      simp only [Res.bind_ok]
      rw [h]
      simp
    · simp [parts]
    · have := parts_count z
      simp
      omega
    · intro d hd
      obtain ⟨p, hp, rfl⟩ := List.mem_map.mp hd
      refine ⟨_, rfl, ?_, fun _ => by simp⟩
      have := small_parts hp
      simp [(sp__law_is_name A).1 p S (by omega) (part_sane hs hp), notN]
noncomputable def m__law_is_path (A : Ad) : List D → Sto → Res D := Classical.choose (ex__law_is_path A)
theorem ok__law_is_path {P : Program} {w : World} {K : PySem.W.Frag} {mg : Str → Option Value} {base : Heap} {A : Ad} (T : Txt P w K mg base A) : FnOk P w K mg base (L2.CX P w) 2 A._law_is_path A.fd__law_is_path ["_law_thing"] (spF 1 (m__law_is_path A)) := (Classical.choose_spec (ex__law_is_path A)).1 T
theorem sp__law_is_path (A : Ad) : (∀ z S, z.length ≤ 50000 → sane z → (m__law_is_path A) [.str z] S = .ok (.bl (isPt z)) S) ∧ (∀ d S, (tyN d).isSome = true → (∀ z, d ≠ .str z) → (m__law_is_path A) [d] S = .ok (.bl false) S) ∧ (∀ fs S, (m__law_is_path A) [.obj A.C_Package fs] S = .ok (.bl false) S) := (Classical.choose_spec (ex__law_is_path A)).2
theorem ex__law_told (A : Ad) : ∃ m : List D → Sto → Res D, (∀ {P : Program} {w : World} {K : PySem.W.Frag} {mg : Str → Option Value} {base : Heap}, Txt P w K mg base A → FnOk P w K mg base (L2.CX P w) 5 A._law_told A.fd__law_told ["_law_thing"] (spF 1 m)) ∧
(∀ d S, m_is_path A [d] S = .ok (.bl false) S → m [d] S = .ok (.tup [.str "BadPath", d]) S) ∧ (∀ z S, z.length ≤ 50000 → isPt z = true → m [.str z] S = .ok (.lst [.tup ((namesL z).map .str)]) S) := by
  refine ⟨(runF ["_law_thing", "e", "_law_own"] _), fun {P w K mg base} T => fnd (k := 4) _ T.F__law_told sc__law_told (fun cdv A' outer s H E hr => ⟨_, _, (dss_one (ds_tryAs (i := 1) (subOf A.C_BadPath) sc__law_told.nd ⟨rfl, by decide, .inl T.x_BadPath.gC⟩ takes_fn rfl (subOf_ok T.xm_BadPath) (fun W pn xe tk _ => (dss_one (ds_ret (de_lst (da_cons (de_call (ok_names_of T) (hr.mono (by decide)) T.g_names_of T.k_names_of T.b_names_of (pass_tk tk) (da_cons (de_var 0) da_nil)) da_nil))))) (fun a oe cls d pn hz hf => (dss_cons (ds_set 2 sc__law_told.nd (de_and (de_callB (v_isX T.xi_BadPath_ValueError) (cr_isX T.xe_BadPath hz hf) T.m_isinstance boot_isinstance (da_cons (de_var 1) (da_cons (de_ty "ValueError" T.m_ValueError (by decide +kernel)) da_nil))) (de_one (de_not (de_callB (v_isX T.xi_BadPath_BadName_BadText) (cr_isX T.xe_BadPath hz hf) T.m_isinstance boot_isinstance (da_cons (de_var 1) (da_cons (de_tup (da_cons (de_gRef T.x_BadName.gC) (da_cons (de_gRef T.x_BadText.gC) da_nil))) da_nil)))))))
  (dss_one (ds_ret (de_if (dt_val (de_var 2)) (de_tup (da_cons de_str (da_cons (de_xf T.xf_BadPath T.xn_BadPath_path hz hf (de_var 1)) da_nil))) (de_tup (da_cons de_str da_nil))))))))), fun ds S hl => Or.inr rfl⟩), ?_⟩
  refine ⟨fun d S h => ?_, fun z S hl hp => ?_⟩
  · have h1 := (sp_names_of A d S).1 h
    simp only [runF]
    rw [tryAs_ex (.rt (.tup [.str "BadPath", d]) S) (C := A.C_BadPath) (fs := [("path", d)]) (ρ1 := [some d, none, none]) (S1 := S) ?_ (subOf_self _) ?_]
    · simp [h1]
    · intro a dd
      simp [fIsX, List.lookup]
  · have h1 := (sp_names_of A (.str z) S).2 z rfl hl hp
    generalize D.tup ((namesL z).map .str) = R at *
    simp only [runF]
    rw [tryAs_rt (d := .lst [R]) (S1 := S)]
    simp [h1]
noncomputable def m__law_told (A : Ad) : List D → Sto → Res D := Classical.choose (ex__law_told A)
theorem ok__law_told {P : Program} {w : World} {K : PySem.W.Frag} {mg : Str → Option Value} {base : Heap} {A : Ad} (T : Txt P w K mg base A) : FnOk P w K mg base (L2.CX P w) 5 A._law_told A.fd__law_told ["_law_thing"] (spF 1 (m__law_told A)) := (Classical.choose_spec (ex__law_told A)).1 T
theorem sp__law_told (A : Ad) : (∀ d S, m_is_path A [d] S = .ok (.bl false) S → (m__law_told A) [d] S = .ok (.tup [.str "BadPath", d]) S) ∧ (∀ z S, z.length ≤ 50000 → isPt z = true → (m__law_told A) [.str z] S = .ok (.lst [.tup ((namesL z).map .str)]) S) := (Classical.choose_spec (ex__law_told A)).2
end KL
set_option Elab.async false
set_option linter.all false
set_option maxRecDepth 100000
set_option maxHeartbeats 4000000
set_option autoImplicit false
namespace KL
open PySem PySem.Spec PyProof.Rows L2 DL
def restD (C : Addr) (l : Str) : List D := [.non, .bl true, .bl false, .int 0, .int 1, .lst [], .lst [.str l], .tup [.str l], .dic [], .dic [(.inr l, .non)], pkgD C [], .tup []]
def letS (l : Str) : Prop := l = Str.ofString "a" ∨ l = Str.ofString "z" ∨ l = Str.ofString "m"
def ThG (C : Addr) (d : D) : Prop := (∃ z, d = .str z ∧ okS z = true) ∨ ∃ l, letS l ∧ d ∈ restD C l
theorem rest_two {C : Addr} {l : Str} {d : D} (h : d ∈ restD C l) : ((tyN d).isSome = true ∧ ∀ z, d ≠ .str z) ∨ d = pkgD C [] := by
  simp only [restD, List.mem_cons, List.not_mem_nil, or_false] at h
  rcases h with rfl | rfl | rfl | rfl | rfl | rfl | rfl | rfl | rfl | rfl | rfl | rfl
  case inr.inr.inr.inr.inr.inr.inr.inr.inr.inr.inl => exact .inr rfl
  all_goals exact .inl ⟨rfl, fun z h => nomatch h⟩
abbrev badP (d : D) : D := .tup [.str "BadPath", d]
theorem repr_dat {C : Addr} {m : List D → Sto → Res D} {x : D} {p : PyData} (h : toPy x = some p) (hk : okShow p = true) (hc : ∀ S, cl S x = x) : ∃ t, ∀ S, fReprX C m S [x] = .ok (.str t) S := by
  refine ⟨p.shown, fun S => ?_⟩
  have e : fRepr S [x] = some (.str p.shown) := by
    show ((toPy (cl S x)).bind fun p => if okShow p = true then some (D.str p.shown) else none) = _
    rw [hc S, h, Option.bind_some, if_pos hk]
  unfold fReprX
  rw [e]
theorem repr_dic {C : Addr} {m : List D → Sto → Res D} {z : Str} {kvs : List (Key × D)} (h : allNon kvs = true) (h2 : okDt (dtPy z (kvs.map (·.1))) = true) : ∃ t, ∀ S, fReprX C m S [.tup [.str z, .dic kvs]] = .ok (.str t) S := by
  refine ⟨(dtPy z (kvs.map (·.1))).shown, fun S => ?_⟩
  have e : fRepr S [.tup [.str z, .dic kvs]] = none := rfl
  unfold fReprX
  rw [e]
  show fDt S z kvs = _
  unfold fDt
  rw [if_pos ⟨h, h2⟩]
theorem repr_pkg (A : Ad) {z : Str} (hz : (reprText z).length ≤ 1000000) : ∃ t, ∀ S, fReprX A.C_Package (m_Package___repr__ A) S [.tup [.str z, pkgD A.C_Package []]] = .ok (.str t) S := by
  refine ⟨tupleText [reprText z, repr0], fun S => ?_⟩
  have e : fRepr S [.tup [.str z, pkgD A.C_Package []]] = none := rfl
  unfold fReprX
  rw [e]
  show fOt A.C_Package (m_Package___repr__ A) S z (pkgD A.C_Package []) = _
  unfold fOt
  have hv : vO S (pkgD A.C_Package []) = some (A.C_Package, fldsD []) := rfl
  rw [hv]
  dsimp only
  rw [if_pos ⟨rfl, hz⟩, sp_Package___repr__ A S, Res.bind_ok]
  unfold okOt
  dsimp only
  rw [if_pos (by decide +kernel)]
theorem repr_bad (A : Ad) {d : D} (h : ThG A.C_Package d) : ∃ t, ∀ S, fReprX A.C_Package (m_Package___repr__ A) S [badP d] = .ok (.str t) S := by
  rcases h with ⟨z, rfl, hz⟩ | ⟨l, hl, h⟩
  · exact repr_dat (p := .tuple [.str "BadPath", .str z]) rfl (show_ss (okS_sane (z := Str.ofString "BadPath") (by decide +kernel)) (by decide +kernel) (okS_sane hz) (okS_is hz).1) fun S => rfl
  · simp only [restD, List.mem_cons, List.not_mem_nil, or_false] at h
    rcases h with rfl | rfl | rfl | rfl | rfl | rfl | rfl | rfl | rfl | rfl | rfl | rfl
    · exact repr_dat (p := .tuple [.str "BadPath", .none]) rfl (by decide +kernel) fun S => rfl
    · exact repr_dat (p := .tuple [.str "BadPath", .bool true]) rfl (by decide +kernel) fun S => rfl
    · exact repr_dat (p := .tuple [.str "BadPath", .bool false]) rfl (by decide +kernel) fun S => rfl
    · exact repr_dat (p := .tuple [.str "BadPath", .int 0]) rfl (by decide +kernel) fun S => rfl
    · exact repr_dat (p := .tuple [.str "BadPath", .int 1]) rfl (by decide +kernel) fun S => rfl
    · exact repr_dat (p := .tuple [.str "BadPath", .list []]) rfl (by decide +kernel) fun S => rfl
    · exact repr_dat (p := .tuple [.str "BadPath", .list [.str l]]) rfl (by rcases hl with rfl | rfl | rfl <;> decide +kernel) fun S => rfl
    · exact repr_dat (p := .tuple [.str "BadPath", .tuple [.str l]]) rfl (by rcases hl with rfl | rfl | rfl <;> decide +kernel) fun S => rfl
    · exact repr_dic rfl (by decide +kernel)
    · exact repr_dic rfl (by rcases hl with rfl | rfl | rfl <;> decide +kernel)
    · exact repr_pkg A (by decide +kernel)
    · exact repr_dat (p := .tuple [.str "BadPath", .tuple []]) rfl (by decide +kernel) fun S => rfl
theorem repr_bb (C : Addr) (m : List D → Sto → Res D) (a b : Bool) : ∃ t, ∀ S, fReprX C m S [.lst [.bl a, .bl b]] = .ok (.str t) S := by
  cases a <;> cases b
  · exact repr_dat (p := .list [.bool false, .bool false]) rfl (by decide +kernel) fun S => rfl
  · exact repr_dat (p := .list [.bool false, .bool true]) rfl (by decide +kernel) fun S => rfl
  · exact repr_dat (p := .list [.bool true, .bool false]) rfl (by decide +kernel) fun S => rfl
  · exact repr_dat (p := .list [.bool true, .bool true]) rfl (by decide +kernel) fun S => rfl
theorem nm_saneS {w : Str} (h : isNm w = true) : sane w := fun c hc => by have := nm_sign h hc; omega
theorem repr_names (C : Addr) (m : List D → Sto → Res D) {z : Str} (h : isPt z = true) (hz : z.length ≤ 3000) : ∃ t, ∀ S, fReprX C m S [.lst [.tup ((namesL z).map .str)]] = .ok (.str t) S := by
  refine repr_dat (p := .list [.tuple ((namesL z).map .str)]) ?_ (show_lt (fun s hs => ?_) ?_) fun S => rfl
  · simp [toPy, toPys, toPys_strs]
  · have hn : isNm s = true := by
      unfold namesL at hs
      unfold isPt at h
      split at hs
      · cases hs
      · rename_i h0
        rw [decide_eq_false h0, Bool.false_or] at h
        exact List.all_eq_true.mp h s hs
    exact ⟨nm_saneS hn, by have := (nm_len hn).2; omega⟩
  · unfold namesL
    split
    · simp
    · have := parts_count z
      omega
theorem pt_filter {z : Str} (h : isPt z = true) : (parts z).filter (fun s => !decide (s = Str.ofString "")) = namesL z := by
  unfold namesL
  unfold isPt at h
  split
  · rename_i h0
    subst h0
    decide +kernel
  · rename_i h0
    rw [decide_eq_false h0, Bool.false_or] at h
    rw [List.filter_eq_self]
    intro s hs
    have hn := nm_len (List.all_eq_true.mp h s hs)
    rw [Bool.not_eq_true', decide_eq_false_iff_not]
    intro e
    rw [e] at hn
    exact absurd hn.1 (by decide +kernel)
def notE (d : D) : Bool := match d with | .str x => !(decide (x = Str.ofString "")) | _ => false
theorem ex__law_right (A : Ad) : ∃ m : List D → Sto → Res D, (∀ {P : Program} {w : World} {K : PySem.W.Frag} {mg : Str → Option Value} {base : Heap}, Txt P w K mg base A → FnG P w K mg base (L2.CX P w) 6 A._law_right (spF 1 m)) ∧
(∀ d S, ThG A.C_Package d → m [d] S = .ok (.bl true) S) := by
  refine ⟨(runF ["_law_thing", "_law_part"] _), fun {P w K mg base} T => fnd_g (k := 5) _ T.F__law_right sc__law_right T.b__law_right (fun cdv A' outer s H E hr hG => ⟨_, _, (dss_cons (ds_if (dt_cmp (or_ne (K := K) hr.units) (v_ne K) (de_callBG (fun _ => vg_reprX) (fun σ => cr_reprX (K := K) hG hr.units T.me_Package___repr__.at_ T.me_Package___repr__.fn (fnr (ok_Package___repr__ T) T.b_Package___repr__) (hr.mono (by decide)) (at_of pass_fn σ)) T.m_repr (by decide +kernel) (da_cons (de_lst (da_cons (de_call (ok_is_name T) (hr.mono (by decide)) T.g_is_name T.k_is_name T.b_is_name pass_fn (da_cons (de_var 0) da_nil)) (da_cons (de_call (ok_is_path T) (hr.mono (by decide)) T.g_is_path T.k_is_path T.b_is_path pass_fn (da_cons (de_var 0) da_nil)) da_nil))) da_nil)) (de_callBG (fun _ => vg_reprX) (fun σ => cr_reprX (K := K) hG hr.units T.me_Package___repr__.at_ T.me_Package___repr__.fn (fnr (ok_Package___repr__ T) T.b_Package___repr__) (hr.mono (by decide)) (at_of pass_fn σ)) T.m_repr (by decide +kernel) (da_cons (de_lst (da_cons (de_call (ok__law_is_name T) (hr.mono (by decide)) T.g__law_is_name T.k__law_is_name T.b__law_is_name pass_fn (da_cons (de_var 0) da_nil)) (da_cons (de_call (ok__law_is_path T) (hr.mono (by decide)) T.g__law_is_path T.k__law_is_path T.b__law_is_path pass_fn (da_cons (de_var 0) da_nil)) da_nil))) da_nil)) rfl) (dss_one (ds_ret de_bl)) dss_nil)
  (dss_cons (ds_if (dt_not (dt_val (de_call (ok__law_is_path T) (hr.mono (by decide)) T.g__law_is_path T.k__law_is_path T.b__law_is_path pass_fn (da_cons (de_var 0) da_nil)))) (dss_one (ds_ret (de_cmp (or_eq (K := K) hr.units) (v_eq K) (de_callBG (fun _ => vg_reprX) (fun σ => cr_reprX (K := K) hG hr.units T.me_Package___repr__.at_ T.me_Package___repr__.fn (fnr (ok_Package___repr__ T) T.b_Package___repr__) (hr.mono (by decide)) (at_of pass_fn σ)) T.m_repr (by decide +kernel) (da_cons (de_call (ok__law_told T) (hr.mono (by decide)) T.g__law_told T.k__law_told T.b__law_told pass_fn (da_cons (de_var 0) da_nil)) da_nil)) (de_callBG (fun _ => vg_reprX) (fun σ => cr_reprX (K := K) hG hr.units T.me_Package___repr__.at_ T.me_Package___repr__.fn (fnr (ok_Package___repr__ T) T.b_Package___repr__) (hr.mono (by decide)) (at_of pass_fn σ)) T.m_repr (by decide +kernel) (da_cons (de_tup (da_cons de_str (da_cons (de_var 0) da_nil))) da_nil)) rfl))) dss_nil)
  (dss_one (ds_ret (de_cmp (or_eq (K := K) hr.units) (v_eq K) (de_callBG (fun _ => vg_reprX) (fun σ => cr_reprX (K := K) hG hr.units T.me_Package___repr__.at_ T.me_Package___repr__.fn (fnr (ok_Package___repr__ T) T.b_Package___repr__) (hr.mono (by decide)) (at_of pass_fn σ)) T.m_repr (by decide +kernel) (da_cons (de_call (ok__law_told T) (hr.mono (by decide)) T.g__law_told T.k__law_told T.b__law_told pass_fn (da_cons (de_var 0) da_nil)) da_nil)) (de_callBG (fun _ => vg_reprX) (fun σ => cr_reprX (K := K) hG hr.units T.me_Package___repr__.at_ T.me_Package___repr__.fn (fnr (ok_Package___repr__ T) T.b_Package___repr__) (hr.mono (by decide)) (at_of pass_fn σ)) T.m_repr (by decide +kernel) (da_cons (de_lst (da_cons (de_callTy (v_tuple K) cr_tupleK T.m_tuple (by decide +kernel) (da_cons (de_lc (own := [("_law_part", 1)]) (g := gName 1) ⟨blkOk_by (own := [("_law_part", 1)]) (N := ["_law_thing", "_law_part"]) (sc := defScope s__law_right) (by decide +kernel), fun _ _ _ _ _ => pg_name (i := 1) sc__law_right.nd rfl (by first | exact Or.inl rfl | exact Or.inr rfl), fun _ _ _ _ _ => (by exact (dts_one (dt_cmp (or_ne (K := K) hr.units) (v_ne K) (de_var 1) de_str rfl))), fun _ _ _ _ _ => (by exact (de_var 1)), ⟨[1], sog_name 1, by decide⟩⟩ (di_list (K := K) (de_split (de_var 0) de_str)) rfl sc__law_right.nd) da_nil)) da_nil)) da_nil)) rfl))))), fun ds S hl => Or.inr rfl⟩), ?_⟩
  intro d S h
  obtain ⟨t, ht⟩ := repr_bad A h
  have hb := repr_bb A.C_Package (m_Package___repr__ A)
  obtain ⟨a, b, h1, h2, h3, h4, h5⟩ : ∃ a b : Bool, m_is_name A [d] S = .ok (.bl a) S ∧ m_is_path A [d] S = .ok (.bl b) S ∧ m__law_is_name A [d] S = .ok (.bl a) S ∧ m__law_is_path A [d] S = .ok (.bl b) S ∧ (b = true → ∃ z, d = .str z ∧ okS z = true ∧ isPt z = true) := by
    rcases h with ⟨z, rfl, hz⟩ | ⟨l, hl, hr⟩
    · have z1 := (okS_is hz).1
      exact ⟨isNm z, isPt z, (sp_is_name A).1 z S (by omega), ((sp_is_path A).1 S).1 z (by omega), (sp__law_is_name A).1 z S (by omega) (okS_sane hz), (sp__law_is_path A).1 z S (by omega) (okS_sane hz), fun hb => ⟨z, rfl, hz, hb⟩⟩
    · refine ⟨false, false, ?_, ?_, ?_, ?_, fun h => nomatch h⟩
      all_goals rcases rest_two hr with ⟨q1, q2⟩ | rfl
      · exact (sp_is_name A).2.1 d S q1 q2
      · exact (sp_is_name A).2.2 _ S
      · exact ((sp_is_path A).1 S).2 d q1 q2
      · exact (sp_is_path A).2 _ S
      · exact (sp__law_is_name A).2.1 d S q1 q2
      · exact (sp__law_is_name A).2.2 _ S
      · exact (sp__law_is_path A).2.1 d S q1 q2
      · exact (sp__law_is_path A).2.2 _ S
  obtain ⟨u, hu⟩ := hb a b
  cases b with
  | false =>
    have hT := (sp__law_told A).1 d S h2
    have ht' := ht S
    have hu' := hu S
    simp [h1, h2, h3, h4, hu', opNe_str, hT, ht', opEq_str]
  | true =>
    obtain ⟨z, rfl, hz, hp⟩ := h5 rfl
    have z1 := (okS_is hz).1
    have hT := (sp__law_told A).2 z S (by omega) hp
    obtain ⟨v, hv⟩ := repr_names A.C_Package (m_Package___repr__ A) hp z1
    have hv' := hv S
    have hu' := hu S
    have hl : lcomp [1] (itF asL (mS1 opSplit (fVar 0) (fC (D.str (Str.ofString "/"))))) (gfName 1) (tst (DL.bin opNe (fVar 1) (fC (D.str (Str.ofString ""))))) (fVar 1) [some (.str z), none] S = .ok (.lst ((namesL z).map .str)) S := by
      have h5 : z.length ≤ 100000 := by omega
      rw [lcomp_filter (S' := S) ((parts z).map .str) notE id]
      · rw [filt_strs (parts z) (fun s => !decide (s = Str.ofString "")) notE fun s => rfl, pt_filter hp]
      · simp [opSplit, parts, h5]
      · have := parts_count z
        simp
        omega
      · intro d hd
        obtain ⟨p, hp', rfl⟩ := List.mem_map.mp hd
        refine ⟨_, rfl, ?_, fun _ => by simp⟩
        simp [opNe_str, notE]
    have hF : fTuple S [.lst ((namesL z).map .str)] = some (.tup ((namesL z).map .str)) := by simp [fTuple]
    generalize D.tup ((namesL z).map .str) = R at *
    generalize D.lst ((namesL z).map .str) = R2 at *
    simp [h1, h2, h3, h4, hu', opNe_str, hT]
    rw [hv']
    simp only [Res.bind_ok]
    rw [hl]
    simp [hF, hv', opEq_str]
noncomputable def m__law_right (A : Ad) : List D → Sto → Res D := Classical.choose (ex__law_right A)
theorem ok__law_right {P : Program} {w : World} {K : PySem.W.Frag} {mg : Str → Option Value} {base : Heap} {A : Ad} (T : Txt P w K mg base A) : FnG P w K mg base (L2.CX P w) 6 A._law_right (spF 1 (m__law_right A)) := (Classical.choose_spec (ex__law_right A)).1 T
theorem sp__law_right (A : Ad) : (∀ d S, ThG A.C_Package d → (m__law_right A) [d] S = .ok (.bl true) S) := (Classical.choose_spec (ex__law_right A)).2
end KL
set_option Elab.async false
set_option linter.all false
set_option maxRecDepth 100000
set_option maxHeartbeats 4000000
set_option autoImplicit false
namespace KL
open PySem PySem.Spec PyProof.Rows L2 DL
theorem okS_join {ns : List Str} (h : ∀ w ∈ ns, okS w = true ∧ w.length = 1) (hl : ns.length ≤ 20) : okS (Txt.join "" ns) = true ∧ (Txt.join "" ns).length ≤ 20 ∧ joinOk "" ns = true := by
  have e0 : TL.tl (Str.ofString "") = [] := by decide +kernel
  have l0 : (Str.ofString "").length = 0 := by decide +kernel
  have hlen : (Txt.join "" ns).length ≤ 20 := by
    rw [← tl_len, TL.join_eq, TL.tl_join]
    have := joinL_len (a := TL.tl (Str.ofString "")) (l := ns.map TL.tl) (n := 1) fun x hx => by
      obtain ⟨w, hw, rfl⟩ := List.mem_map.mp hx
      rw [tl_len, (h w hw).2]
      exact Nat.le_refl _
    rw [e0, List.length_map] at this
    rw [e0]
    simp at this
    omega
  refine ⟨okS_of (by omega) fun c hc => ?_, hlen, ?_⟩
  · have hc : c ∈ TL.tl (Txt.join "" ns) := hc
    rw [TL.join_eq, TL.tl_join] at hc
    rcases joinL_mem hc with q | ⟨x, hx, q⟩
    · rw [e0] at q; cases q
    · obtain ⟨w, hw, rfl⟩ := List.mem_map.mp hx
      exact (okS_is (h w hw).1).2 c q
  · have := sum_le (fun w : Str => w.length) 1 ns fun w hw => by rw [(h w hw).2]; exact Nat.le_refl _
    unfold joinOk
    rw [l0]
    refine decide_eq_true ?_
    omega
theorem ex__law_text (A : Ad) : ∃ m : List D → Sto → Res D, (∀ {P : Program} {w : World} {K : PySem.W.Frag} {mg : Str → Option Value} {base : Heap}, Txt P w K mg base A → FnOk P w K mg base (L2.CX P w) 3 A._law_text A.fd__law_text ["_law_bag_here"] (spF 1 m)) ∧
(∀ (L : Pl) (b : Bag) (k : Nat), OkB b k → k ≤ 900000 → ∃ (z : Str) (c : Bag), m [.hot L.i] (bg L b) = .ok (.str z) (bg L c) ∧ OkB c (k + 20) ∧ okS z = true) := by
  refine ⟨(runF ["_law_bag_here", "_law_signs", "_law_text_here", "_law_k"] _), fun {P w K mg base} T => fnd (k := 2) _ T.F__law_text sc__law_text (fun cdv A' outer s H E hr => ⟨_, _, (dss_cons (ds_set 1 sc__law_text.nd (de_call (ok__law_pick T) (hr.mono (by decide)) T.g__law_pick T.k__law_pick T.b__law_pick pass_fn (da_cons (de_var 0) (da_cons (de_lst (da_cons de_str (da_cons de_str (da_cons de_str (da_cons de_str da_nil))))) da_nil))))
  (dss_cons (ds_set 2 sc__law_text.nd (de_join (K := K) de_str (de_lc (own := [("_law_k", 3)]) (g := gName 3) ⟨blkOk_by (own := [("_law_k", 3)]) (N := ["_law_bag_here", "_law_signs", "_law_text_here", "_law_k"]) (sc := defScope s__law_text) (by decide +kernel), fun _ _ _ _ _ => pg_name (i := 3) sc__law_text.nd rfl (by first | exact Or.inl rfl | exact Or.inr rfl), fun _ _ _ _ _ => (by exact dts_nil), fun _ _ _ _ _ => (by exact (de_call (ok__law_pick T) (hr.mono (by decide)) T.g__law_pick T.k__law_pick T.b__law_pick passN (da_cons (de_var 0) (da_cons (de_var 1) da_nil)))), ⟨[3], sog_name 3, by decide⟩⟩ (di_range1 T.m_range (da_cons (de_call (ok__law_take T) (hr.mono (by decide)) T.g__law_take T.k__law_take T.b__law_take pass_fn (da_cons (de_var 0) (da_cons de_int da_nil))) da_nil)) rfl sc__law_text.nd)))
  (dss_one (ds_ret (de_call (ok__law_pick T) (hr.mono (by decide)) T.g__law_pick T.k__law_pick T.b__law_pick pass_fn (da_cons (de_var 0) (da_cons (de_lst (da_cons (de_var 2) (da_cons (de_op or_add v_add (de_op or_add v_add (de_var 2) de_str) (de_var 2)) (da_cons (de_op or_add v_add de_str (de_var 2)) (da_cons (de_op or_add v_add (de_var 2) de_str) (da_cons (de_op or_add v_add de_str (de_var 2)) da_nil)))))) da_nil))))))), fun ds S hl => Or.inr rfl⟩), ?_⟩
  intro L b k ob hk
  obtain ⟨x, c, e, oc, hx⟩ := (sp__law_pick A L b k ob (by omega)).1 [.str "ab", .str "abz/", .str "abcxyz///", .str "ab/AZ09_-. :\x40[`{~"] (by simp) (by simp)
  obtain ⟨sg, rfl, g1, g2, g3⟩ : ∃ sg : Str, x = .str sg ∧ 0 < sg.length ∧ sg.length < 1000 ∧ okS sg = true := by
    simp only [List.mem_cons, List.not_mem_nil, or_false] at hx
    rcases hx with rfl | rfl | rfl | rfl
    · exact ⟨_, rfl, by decide +kernel, by decide +kernel, by decide +kernel⟩
    · exact ⟨_, rfl, by decide +kernel, by decide +kernel, by decide +kernel⟩
    · exact ⟨_, rfl, by decide +kernel, by decide +kernel, by decide +kernel⟩
    · exact ⟨_, rfl, by decide +kernel, by decide +kernel, by decide +kernel⟩
  obtain ⟨v, c1, e1, oc1, v0, v1⟩ := sp__law_take A L c (k + 1) 14 oc (by omega) (by omega) (by omega)
  simp [e]
  generalize hR : lcomp _ _ _ _ _ _ _ = RR
  obtain ⟨res, c2, rfl, o2, hr, hl⟩ : ∃ res c2, RR = .ok (.lst res) (bg L c2) ∧ OkB c2 (k + 1 + 1 + 1 * (rngF 0 v).length) ∧ (∀ y ∈ res, ∃ w : Str, (okS w = true ∧ w.length = 1) ∧ y = D.str w) ∧ res.length = (rngF 0 v).length := by
    subst hR
    refine lcomp_bag (K := 950000) (fun y => ∃ w : Str, (okS w = true ∧ w.length = 1) ∧ y = D.str w) (rngF 0 v) c1 (k + 1 + 1) ?_ (by rw [rngF_len]; omega) oc1 (by rw [rngF_len]; omega) ?_
    · have q1 : -100000 < v ∧ v < 100000 := by omega
      simp [e1, q1]
    · intro d hd b' k' ob' hk'
      obtain ⟨x, c', e', oc', hx⟩ := (sp__law_pick A L b' k' ob' (by omega)).2 sg g1 g2
      refine ⟨_, _, c', rfl, rfl, by simp [e'], oc', ⟨#[x]⟩, ⟨okS_of (by show 1 ≤ 3000; decide) fun y hy => ?_, rfl⟩, rfl⟩
      have : y = x := by simpa using hy
      rw [this]
      exact (okS_is g3).2 x hx
  obtain ⟨ns, rfl, hns⟩ := strs_from hr
  have hlen : ns.length ≤ 20 := by
    have := hl
    rw [rngF_len, List.length_map] at this
    omega
  obtain ⟨j1, j2, j3⟩ := okS_join hns hlen
  have oJ : opJoin (bg L c2) "" (.lst (ns.map .str)) = some (.str (Txt.join "" ns)) := by simp [opJoin, j3]
  have o22 : OkB c2 (k + 16) := o2.mono (by rw [rngF_len]; omega)
  generalize Txt.join "" ns = t at *
  generalize D.lst (ns.map .str) = R at *
  obtain ⟨x, c3, e3, oc3, hx⟩ := (sp__law_pick A L c2 (k + 16) o22 (by omega)).1 [.str t, .str (t ++ "/" ++ t), .str ("ab" ++ t), .str (t ++ "/a"), .str ("/" ++ t)] (by simp) (by simp)
  have s1 : (Str.ofString "/").length = 1 := by decide +kernel
  have s2 : (Str.ofString "ab").length = 2 := by decide +kernel
  have s3 : (Str.ofString "/a").length = 2 := by decide +kernel
  have k1 : okS "/" = true := by decide +kernel
  have k2 : okS "ab" = true := by decide +kernel
  have k3 : okS "/a" = true := by decide +kernel
  obtain ⟨z, rfl, hz⟩ : ∃ z : Str, x = .str z ∧ okS z = true := by
    simp only [List.mem_cons, List.not_mem_nil, or_false] at hx
    rcases hx with rfl | rfl | rfl | rfl | rfl
    · exact ⟨_, rfl, j1⟩
    · exact ⟨_, rfl, okS_app (okS_app j1 k1 (by omega)) j1 (by rw [app_len]; omega)⟩
    · exact ⟨_, rfl, okS_app k2 j1 (by omega)⟩
    · exact ⟨_, rfl, okS_app j1 k3 (by omega)⟩
    · exact ⟨_, rfl, okS_app k1 j1 (by omega)⟩
  refine ⟨z, c3, ?_, oc3.mono (by omega), hz⟩
  have b1 : t.length ≤ 99999 := by omega
  have b2 : t.length + 1 + t.length ≤ 100000 := by omega
  have b3 : 2 + t.length ≤ 100000 := by omega
  have b4 : t.length + 2 ≤ 100000 := by omega
  have b5 : 1 + t.length ≤ 100000 := by omega
  have b6 : t.length + 1 ≤ 100000 := by omega
  simp [oJ, app_len, s1, s2, s3, b1, b2, b3, b4, b5, b6, e3]
noncomputable def m__law_text (A : Ad) : List D → Sto → Res D := Classical.choose (ex__law_text A)
theorem ok__law_text {P : Program} {w : World} {K : PySem.W.Frag} {mg : Str → Option Value} {base : Heap} {A : Ad} (T : Txt P w K mg base A) : FnOk P w K mg base (L2.CX P w) 3 A._law_text A.fd__law_text ["_law_bag_here"] (spF 1 (m__law_text A)) := (Classical.choose_spec (ex__law_text A)).1 T
theorem sp__law_text (A : Ad) : (∀ (L : Pl) (b : Bag) (k : Nat), OkB b k → k ≤ 900000 → ∃ (z : Str) (c : Bag), (m__law_text A) [.hot L.i] (bg L b) = .ok (.str z) (bg L c) ∧ OkB c (k + 20) ∧ okS z = true) := (Classical.choose_spec (ex__law_text A)).2
theorem w_mul {l : Str} (hl : letS l) {v : Int} (h0 : 0 ≤ v) (h1 : v < 9) : okS (Txt.mul l (1 + v)) = true := by
  have h : ∀ n ∈ List.range 9, okS (Txt.mul l (1 + (n : Int))) = true := by rcases hl with rfl | rfl | rfl <;> decide +kernel
  obtain ⟨n, rfl⟩ : ∃ n : Nat, v = n := ⟨v.toNat, by omega⟩
  exact h n (List.mem_range.mpr (by omega))
theorem w_long {l : Str} (hl : letS l) {v : Int} (h0 : 0 ≤ v) (h1 : v < 4) : okS (Txt.join "/" (List.replicate (199 + v).toNat l)) = true ∧ joinOk "/" (List.replicate (199 + v).toNat l) = true := by
  have h : ∀ n ∈ List.range 4, okS (Txt.join "/" (List.replicate (199 + n) l)) = true ∧ joinOk "/" (List.replicate (199 + n) l) = true := by rcases hl with rfl | rfl | rfl <;> decide +kernel
  obtain ⟨n, rfl⟩ : ∃ n : Nat, v = n := ⟨v.toNat, by omega⟩
  have e : (199 + (n : Int)).toNat = 199 + n := by omega
  rw [e]
  exact h n (List.mem_range.mpr (by omega))
theorem w_long8 {l : Str} (hl : letS l) : okS (Txt.join "/" (List.replicate 200 (Txt.mul l 8))) = true ∧ joinOk "/" (List.replicate 200 (Txt.mul l 8)) = true := by
  rcases hl with rfl | rfl | rfl <;> decide +kernel
theorem rep_strs (x : Str) (n : Nat) : (List.replicate n [D.str x]).flatten = (List.replicate n x).map D.str := by
  induction n with
  | zero => rfl
  | succ n ih => rw [List.replicate_succ, List.flatten_cons, ih, List.replicate_succ, List.map_cons]; rfl
def wordsD (l : Str) (v u : Int) : List D := [.str (Txt.mul l (1 + v)), .str (Txt.upper l), .str (l ++ "\n"), .str "\n", .str "", .str "/", .str (l ++ "/"), .str (Txt.join "/" (List.replicate (199 + u).toNat l)), .str (Txt.join "/" (List.replicate 200 (Txt.mul l 8)))]
theorem words_ok {l : Str} (hl : letS l) {v u : Int} (h0 : 0 ≤ v) (h1 : v < 9) (g0 : 0 ≤ u) (g1 : u < 4) {d : D} (h : d ∈ wordsD l v u) : ∃ z, d = .str z ∧ okS z = true := by
  simp only [wordsD, List.mem_cons, List.not_mem_nil, or_false] at h
  rcases h with rfl | rfl | rfl | rfl | rfl | rfl | rfl | rfl | rfl
  · exact ⟨_, rfl, w_mul hl h0 h1⟩
  · exact ⟨_, rfl, by rcases hl with rfl | rfl | rfl <;> decide +kernel⟩
  · exact ⟨_, rfl, by rcases hl with rfl | rfl | rfl <;> decide +kernel⟩
  · exact ⟨_, rfl, by decide +kernel⟩
  · exact ⟨_, rfl, by decide +kernel⟩
  · exact ⟨_, rfl, by decide +kernel⟩
  · exact ⟨_, rfl, by rcases hl with rfl | rfl | rfl <;> decide +kernel⟩
  · exact ⟨_, rfl, (w_long hl g0 g1).1⟩
  · exact ⟨_, rfl, (w_long8 hl).1⟩
theorem ex__law_others (A : Ad) : ∃ m : List D → Sto → Res D, (∀ {P : Program} {w : World} {K : PySem.W.Frag} {mg : Str → Option Value} {base : Heap}, Txt P w K mg base A → FnOk P w K mg base (L2.CX P w) 9 A._law_others A.fd__law_others ["_law_bag_here"] (spF 1 m)) ∧
(∀ (L : Pl) (b : Bag) (k : Nat), OkB b k → k ≤ 900000 → LowS (bg L b).length (bg L b) → ∃ (d : D) (c : Bag), m [.hot L.i] (bg L b) = .ok d (bg L c) ∧ OkB c (k + 5) ∧ ThG A.C_Package d) := by
  refine ⟨(runF ["_law_bag_here", "_law_letter", "_law_words", "_law_longs", "_law_rest"] _), fun {P w K mg base} T => fnd (k := 8) _ T.F__law_others sc__law_others (fun cdv A' outer s H E hr => ⟨_, _, (dss_cons (ds_set 1 sc__law_others.nd (de_call (ok__law_pick T) (hr.mono (by decide)) T.g__law_pick T.k__law_pick T.b__law_pick pass_fn (da_cons (de_var 0) (da_cons (de_lst (da_cons de_str (da_cons de_str (da_cons de_str da_nil)))) da_nil))))
  (dss_cons (ds_set 2 sc__law_others.nd (de_lst (da_cons (de_op op_mulS v_mulS (de_var 1) (de_op or_add v_add de_int (de_call (ok__law_take T) (hr.mono (by decide)) T.g__law_take T.k__law_take T.b__law_take pass_fn (da_cons (de_var 0) (da_cons de_int da_nil))))) (da_cons (de_upper (de_var 1) ) (da_cons (de_op or_add v_add (de_var 1) de_str) (da_cons de_str (da_cons de_str (da_cons de_str (da_cons (de_op or_add v_add (de_var 1) de_str) da_nil)))))))))
  (dss_cons (ds_set 3 sc__law_others.nd (de_lst (da_cons (de_join (K := K) de_str (de_op op_rep v_repL (de_lst (da_cons (de_var 1) da_nil)) (de_op or_add v_add de_int (de_call (ok__law_take T) (hr.mono (by decide)) T.g__law_take T.k__law_take T.b__law_take pass_fn (da_cons (de_var 0) (da_cons de_int da_nil)))))) (da_cons (de_join (K := K) de_str (de_op op_rep v_repL (de_lst (da_cons (de_op op_mulS v_mulS (de_var 1) de_int) da_nil)) de_int)) da_nil))))
  (dss_cons (ds_set 4 sc__law_others.nd (de_lst (da_cons de_non (da_cons de_bl (da_cons de_bl (da_cons de_int (da_cons de_int (da_cons (de_lst da_nil) (da_cons (de_lst (da_cons (de_var 1) da_nil)) (da_cons (de_tup (da_cons (de_var 1) da_nil)) (da_cons (de_stl de_dnew) (da_cons (de_stl (de_disp (dps_cons (de_var 1) de_non dps_nil))) (da_cons (de_stl (de_make0 T.mk_Package (ok_Package___init__ T) (hr.mono (by decide)) T.g_Package T.bd_Package___init__ (dvs := [V.non]) (.cons rfl .nil) (dd := [.non]) (fun _ _ => ⟨_, _, rfl, rfl, rfl⟩) pass_fn)) (da_cons (de_tup da_nil) da_nil))))))))))))))
  (dss_one (ds_ret (de_call (ok__law_pick T) (hr.mono (by decide)) T.g__law_pick T.k__law_pick T.b__law_pick pass_fn (da_cons (de_var 0) (da_cons (de_op or_add v_add (de_op or_add v_add (de_var 2) (de_var 3)) (de_var 4)) da_nil))))))))), fun ds S hl => Or.inr rfl⟩), ?_⟩
  intro L b k ob hk hS
  obtain ⟨x, c, e, oc, hx⟩ := (sp__law_pick A L b k ob (by omega)).1 [.str "a", .str "z", .str "m"] (by simp) (by simp)
  obtain ⟨l, rfl, hl⟩ : ∃ l : Str, x = .str l ∧ letS l := by
    simp only [List.mem_cons, List.not_mem_nil, or_false] at hx
    rcases hx with rfl | rfl | rfl
    · exact ⟨_, rfl, .inl rfl⟩
    · exact ⟨_, rfl, .inr (.inl rfl)⟩
    · exact ⟨_, rfl, .inr (.inr rfl)⟩
  obtain ⟨v, c1, e1, oc1, v0, v1⟩ := sp__law_take A L c (k + 1) 9 oc (by omega) (by omega) (by omega)
  obtain ⟨u, c2, e2, oc2, u0, u1⟩ := sp__law_take A L c1 (k + 1 + 1) 4 oc1 (by omega) (by omega) (by omega)
  have hS2 : LowS (bg L c2).length (bg L c2) := low_bg hS
  have f1 := stl_dic (l := []) hS2 rfl
  have f2 := stl_dic (l := [(.inr l, .non)]) hS2 rfl
  have f3 := stl_pkg (C := A.C_Package) (es := []) hS2 (fun _ h => nomatch h)
  have i1 := (sp_Package___init__ A).2 (bg L c2) hS2
  obtain ⟨d, c3, e3, oc3, hd⟩ := (sp__law_pick A L c2 (k + 1 + 1 + 1) oc2 (by omega)).1 (wordsD l v u ++ restD A.C_Package l) (by simp [wordsD]) (by simp [wordsD, restD])
  refine ⟨d, c3, ?_, oc3.mono (by omega), ?_⟩
  case refine_2 =>
    rcases List.mem_append.mp hd with q | q
    · exact .inl (words_ok hl v0 v1 u0 u1 q)
    · exact .inr ⟨l, hl, q⟩
  have ll : l.length = 1 := by rcases hl with rfl | rfl | rfl <;> decide +kernel
  have nl : (Str.ofString "\n").length = 1 := by decide +kernel
  have m8 : (Txt.mul l 8).length = 8 := by rcases hl with rfl | rfl | rfl <;> decide +kernel
  have p1 : opMulS (bg L c1) (.str l) (.int (1 + v)) = some (.str (Txt.mul l (1 + v))) := by
    unfold opMulS
    dsimp only
    rw [if_pos ⟨by omega, by omega, by omega⟩]
  have p2 : opMulS (bg L c2) (.str l) (.int 8) = some (.str (Txt.mul l 8)) := by
    unfold opMulS
    dsimp only
    rw [if_pos ⟨by omega, by omega, by omega⟩]
  have p3 : opRepL (bg L c2) (.lst [.str l]) (.int (199 + u)) = some (.lst ((List.replicate (199 + u).toNat l).map .str)) := by
    show (if ([D.str l].length ≤ 8 ∧ (0 : Int) ≤ 199 + u ∧ 199 + u ≤ 1000) then some (D.lst (List.replicate (199 + u).toNat [D.str l]).flatten) else none) = _
    rw [if_pos ⟨by simp, by omega, by omega⟩, rep_strs]
  have p4 : opRepL (bg L c2) (.lst [.str (Txt.mul l 8)]) (.int 200) = some (.lst ((List.replicate 200 (Txt.mul l 8)).map .str)) := by
    show (if ([D.str (Txt.mul l 8)].length ≤ 8 ∧ (0 : Int) ≤ 200 ∧ (200 : Int) ≤ 1000) then some (D.lst (List.replicate (Int.toNat 200) [D.str (Txt.mul l 8)]).flatten) else none) = _
    rw [if_pos ⟨by simp, by omega, by omega⟩, rep_strs]
    rfl
  have p5 : opJoin (bg L c2) "/" (.lst ((List.replicate (199 + u).toNat l).map .str)) = some (.str (Txt.join "/" (List.replicate (199 + u).toNat l))) := by
    unfold opJoin
    have := (w_long hl u0 u1).2
    generalize List.replicate (199 + u).toNat l = R at *
    simp [this]
  have p6 : opJoin (bg L c2) "/" (.lst ((List.replicate 200 (Txt.mul l 8)).map .str)) = some (.str (Txt.join "/" (List.replicate 200 (Txt.mul l 8)))) := by
    unfold opJoin
    have := (w_long8 hl).2
    generalize List.replicate 200 (Txt.mul l 8) = R at *
    simp [this]
  unfold wordsD restD at e3
  generalize D.lst ((List.replicate (199 + u).toNat l).map .str) = R1 at *
  generalize D.lst ((List.replicate 200 (Txt.mul l 8)).map .str) = R2 at *
  generalize Txt.join "/" (List.replicate (199 + u).toNat l) = T1 at *
  generalize Txt.join "/" (List.replicate 200 (Txt.mul l 8)) = T2 at *
  generalize Txt.mul l (1 + v) = T3 at *
  generalize Txt.mul l 8 = T4 at *
  unfold pobj at f3
  simp only [bg_len] at f1 f2 f3 i1
  have kA : keyAll [(D.str l, D.non)] = some [(.inr l, .non)] := rfl
  have mA : mergeA [] [((.inr l : Key), D.non)] = [(.inr l, .non)] := rfl
  simp only [List.cons_append, List.nil_append] at e3
  simp [e, e1, p1, ll, nl, e2, p2, p3, p4, p5, p6, f1, kA, mA, f2, i1, f3, e3]
noncomputable def m__law_others (A : Ad) : List D → Sto → Res D := Classical.choose (ex__law_others A)
theorem ok__law_others {P : Program} {w : World} {K : PySem.W.Frag} {mg : Str → Option Value} {base : Heap} {A : Ad} (T : Txt P w K mg base A) : FnOk P w K mg base (L2.CX P w) 9 A._law_others A.fd__law_others ["_law_bag_here"] (spF 1 (m__law_others A)) := (Classical.choose_spec (ex__law_others A)).1 T
theorem sp__law_others (A : Ad) : (∀ (L : Pl) (b : Bag) (k : Nat), OkB b k → k ≤ 900000 → LowS (bg L b).length (bg L b) → ∃ (d : D) (c : Bag), (m__law_others A) [.hot L.i] (bg L b) = .ok d (bg L c) ∧ OkB c (k + 5) ∧ ThG A.C_Package d) := (Classical.choose_spec (ex__law_others A)).2
end KL
set_option Elab.async false
set_option linter.all false
set_option maxRecDepth 100000
set_option maxHeartbeats 4000000
set_option autoImplicit false
namespace KL
open PySem PySem.Spec PyProof.Rows L2 DL
noncomputable def turnO (A : Ad) : DL.Env → Sto → DL.Flow := fIf (orB (notB (tst (callF 1 (m__law_right A) (consA (callF 1 (m__law_text A) (consA (fVar 2) fNilA)) fNilA)))) (notB (tst (callF 1 (m__law_right A) (consA (callF 1 (m__law_others A) (consA (fVar 2) fNilA)) fNilA))))) (fRet (fC (D.bl false))) fNext
theorem turn01 (A : Ad) (L : Pl) (b : Bag) (k : Nat) (a0 a1 a3 : Option D) (ob : OkB b k) (hk : k ≤ 100000) (hS : LowS (bg L b).length (bg L b)) : ∃ c, OkB c (k + 30) ∧ turnO A [a0, a1, some (.hot L.i), a3] (bg L b) = .nx [a0, a1, some (.hot L.i), a3] (bg L c) := by
  obtain ⟨z, c1, e1, o1, hz⟩ := sp__law_text A L b k ob (by omega)
  have r1 := sp__law_right A (.str z) (bg L c1) (.inl ⟨z, rfl, hz⟩)
  obtain ⟨d, c2, e2, o2, hd⟩ := sp__law_others A L c1 (k + 20) o1 (by omega) (low_bg hS)
  have r2 := sp__law_right A d (bg L c2) hd
  refine ⟨c2, o2.mono (by omega), ?_⟩
  simp [turnO, e1, r1, e2, r2]
theorem ex_law (A : Ad) : ∃ m : List D → Sto → Res D, (∀ {P : Program} {w : World} {K : PySem.W.Frag} {mg : Str → Option Value} {base : Heap}, Txt P w K mg base A → FnG P w K mg base (L2.CX P w) 10 A.law (spF 1 m)) ∧
(∀ (ns : List Int), ∃ S' : Sto, m [.scr ns] [] = .ok (.bl true) S') := by
  refine ⟨(runF ["_law_script", "_law_at", "_law_bag_here", "_law_turn"] _), fun {P w K mg base} T => fnd_g (k := 9) _ T.F_law sc_law T.b_law (fun cdv A' outer s H E hr hG => ⟨_, _, (dss_cons (ds_for (g := gName 1) own_fn (di_range1 T.m_range (da_cons (de_callB v_max (call_max2 rfl) T.m_max (by decide +kernel) (da_cons de_int (da_cons (de_callB v_min (call_min2 rfl) T.m_min (by decide +kernel) (da_cons de_int (da_cons (de_callB (v_len K) cr_lenA T.m_len boot_len (da_cons (de_var 0) da_nil)) da_nil))) da_nil))) da_nil)) (pg_name (i := 1) sc_law.nd rfl (by first | exact Or.inl rfl | exact Or.inr rfl)) (sog_name 1) (dss_cons (ds_set 2 sc_law.nd (de_call (ok__law_bag T) (hr.mono (by decide)) T.g__law_bag T.k__law_bag T.b__law_bag pass_fn (da_cons (de_var 0) (da_cons (de_var 1) da_nil))))
  (dss_one (ds_for (g := gName 3) own_fn (di_range1 T.m_range (da_cons de_int da_nil)) (pg_name (i := 3) sc_law.nd rfl (by first | exact Or.inl rfl | exact Or.inr rfl)) (sog_name 3) (dss_one (ds_if (dw_pt (dw_or (dt_not (dt_val (de_callG (ok__law_right T) (hr.mono (by decide)) hG T.g__law_right T.k__law_right pass_fn (da_cons (de_call (ok__law_text T) (hr.mono (by decide)) T.g__law_text T.k__law_text T.b__law_text pass_fn (da_cons (de_var 2) da_nil)) da_nil)))) (dw_or1 (dt_not (dt_val (de_callG (ok__law_right T) (hr.mono (by decide)) hG T.g__law_right T.k__law_right pass_fn (da_cons (de_call (ok__law_others T) (hr.mono (by decide)) T.g__law_others T.k__law_others T.b__law_others pass_fn (da_cons (de_var 2) da_nil)) da_nil))))))) (dss_one (ds_ret de_bl)) dss_nil))))))
  (dss_one (ds_ret de_bl))), fun ds S hl => Or.inr rfl⟩), ?_⟩
  intro ns
  simp only [runF]
  simp
  obtain ⟨n, hn0, hn5, hn⟩ : ∃ n : Int, 2 ≤ n ∧ n ≤ 5 ∧ (((((lift (fMin2 [] [D.int 5, D.int ns.length]) []).bind fun d S1 => Res.ok [d] S1).bind fun ds S2 => Res.ok (D.int 2 :: ds) S2).bind fun ds S1 => lift (fMax2 S1 ds) S1).bind fun d S1 => Res.ok [d] S1) = Res.ok [D.int n] [] := by
    simp [fMin2, fMax2]
    split <;> split <;> omega
  rw [hn]
  have c : -100000 < n ∧ n < 100000 := by omega
  simp only [Res.bind_ok, if_pos c, lift_some, Res.flow_ok]
  generalize hF : forF (gfName 1) _ _ _ _ = FF
  obtain ⟨ρ', S', rfl, r, hr, rfl, hS⟩ : ∃ ρ' S', FF = .nx ρ' S' ∧ ∃ r : List (Option D), r.length = 3 ∧ ρ' = some (D.scr ns) :: r ∧ LowS S'.length S' := by
    subst hF
    refine forF_inv (fun ρ S => ∃ r : List (Option D), r.length = 3 ∧ ρ = some (D.scr ns) :: r ∧ LowS S.length S) (rngF 0 n) _ _ ⟨_, rfl, rfl, low_nil⟩ ?_
    rintro d hd ρ S ⟨r, hr, rfl, hS⟩
    obtain ⟨k, hk, rfl⟩ := List.mem_map.mp hd
    have hk := List.mem_range.mp hk
    match r, hr with
    | [a1, a2, a3], _ =>
      obtain ⟨b0, ob, e1⟩ := sp__law_bag A ns (k : Nat) S (by omega) (by omega)
      obtain ⟨L, hL, hSL⟩ := bg_new S b0
      have hS1 : LowS (bg L b0).length (bg L b0) := by
        rw [← hSL]
        exact lowS_snoc hS fun g => rfl
      rw [hSL, ← hL] at e1
      obtain ⟨ρ2, S2, e3, c', b3, rfl, rfl, oc', hS2⟩ := forF_cnt (gF := gfName 3) (Φ := turnO A)
        (fun j ρ S => ∃ c' b3, ρ = [some (D.scr ns), some (.int (k : Nat)), some (.hot L.i), b3] ∧ S = bg L c' ∧ OkB c' (30 * j) ∧ LowS (bg L c').length (bg L c'))
        (rngF 0 12) 0 [some (D.scr ns), some (.int (k : Nat)), some (.hot L.i), a3] (bg L b0) ⟨b0, a3, rfl, rfl, ob, hS1⟩ (fun d hd j ρ S' hj ⟨c', b3, g1, g2, oc, hSc⟩ => by
          subst g1 g2
          rw [rngF_len] at hj
          obtain ⟨c2, o2, e4⟩ := turn01 A L c' (30 * j) (some (D.scr ns)) (some (.int (k : Nat))) (some d) oc (by omega) hSc
          exact ⟨_, _, bg L c2, rfl, e4, c2, some d, rfl, rfl, o2.mono (by omega), low_bg hSc⟩)
      refine ⟨_, [some (D.scr ns), some (.int (k : Nat)), some (.hot L.i), b3], bg L c', rfl, ?_, _, rfl, rfl, hS2⟩
      have sq : ∀ (f g : DL.Env → Sto → DL.Flow) (ρ : DL.Env) (S : Sto), fSeq f g ρ S = (f ρ S).seq g := fun _ _ _ _ => rfl
      have sn : ∀ (g : DL.Env → Sto → DL.Flow) (ρ : DL.Env) (S : Sto), (DL.Flow.nx ρ S).seq g = g ρ S := fun _ _ _ => rfl
      have ff : ∀ (Fi : DL.Env → Sto → Res (List D)) (gF : D → DL.Env → Option DL.Env) (Φ : DL.Env → Sto → DL.Flow) (ρ : DL.Env) (S : Sto), fFor Fi gF Φ ρ S = (Fi ρ S).flow ρ fun items S1 => forF gF Φ items ρ S1 := fun _ _ _ _ _ => rfl
      have t1 : fSet 2 (callF 2 (m__law_bag A) (consA (fVar 0) (consA (fVar 1) fNilA))) [some (D.scr ns), some (.int (0 + (k : Nat))), a2, a3] S = .nx [some (D.scr ns), some (.int (k : Nat)), some (.hot L.i), a3] (bg L b0) := by
        simp [e1]
      have t3 : ∀ (ρ : DL.Env) (S : Sto), itA asR1 (consA (fC (D.int 12)) fNilA) ρ S = .ok (rngF 0 12) S := fun ρ S => by simp
      rw [sq]
      refine (congrArg (fun x => Flow.seq x _) t1).trans ?_
      rw [sn, ff, t3, Res.flow_ok]
      exact e3
  simp
noncomputable def m_law (A : Ad) : List D → Sto → Res D := Classical.choose (ex_law A)
theorem ok_law {P : Program} {w : World} {K : PySem.W.Frag} {mg : Str → Option Value} {base : Heap} {A : Ad} (T : Txt P w K mg base A) : FnG P w K mg base (L2.CX P w) 10 A.law (spF 1 (m_law A)) := (Classical.choose_spec (ex_law A)).1 T
theorem sp_law (A : Ad) : (∀ (ns : List Int), ∃ S' : Sto, (m_law A) [.scr ns] [] = .ok (.bl true) S') := (Classical.choose_spec (ex_law A)).2
end KL
set_option Elab.async false
set_option linter.all false
set_option maxRecDepth 100000
set_option maxHeartbeats 4000000
set_option autoImplicit false
namespace KL
open PySem PySem.Spec PyProof.Rows L2 DL
theorem isi_one {K : PySem.W.Frag} {A : Ad} {C : Addr} (ic : IsiC K C) (h1 : ∀ t ∈ (["str", "int", "bool", "dict", "tuple", "list", "NoneType"] : List String), PySem.W.kitOne K (.ref C) (.type t) = some false) (h2 : ∀ t ∈ (["str", "int", "bool", "dict", "tuple", "list", "NoneType"] : List String), PySem.W.kitOne K (.type t) (.ref C) = some false) (h3 : PySem.W.kitOne K (.ref C) (.ref C) = some true) (hC : A.C_Package = C := by rfl) : IsiF K (isiT A) := by
  subst hC
  refine ⟨fun C d b h => ?_, fun t d b h => ?_⟩
  · unfold isiT at h
    cases d <;> first | (cases h; done) | skip
    all_goals
      dsimp only at h
      split at h
      · rename_i q
        rw [q.1]
        exact ic
      · cases h
  · unfold isiT at h
    cases t <;> cases d <;> first | (cases h; done) | skip
    all_goals dsimp only at h
    · split at h
      · rename_i q
        cases h
        exact ⟨_, _, rfl, rfl, by rw [q.1, q.2]; exact h3⟩
      · cases h
    · split at h
      · rename_i q
        cases h
        exact ⟨_, _, rfl, rfl, by rw [q.1]; exact h1 _ q.2⟩
      · cases h
    · split at h
      · rename_i q
        cases h
        exact ⟨_, _, rfl, rfl, by rw [q.1]; exact h2 _ q.2⟩
      · cases h
    · exact ⟨_, _, rfl, rfl, kit_ty h⟩
abbrev si_BadPath : Stmt := (clsBody (topS 2)).getD 0 (.Pass ⟨0, 0, 0, 0⟩)
theorem si_BadPath_sc : FnScope [Str.ofString "self", Str.ofString "path"] [Str.ofString "self", Str.ofString "path"] (defScope si_BadPath) := ⟨rfl, rfl, rfl, by decide +kernel, rfl, by decide +kernel, by decide +kernel⟩
abbrev si_BadName : Stmt := (clsBody (topS 3)).getD 0 (.Pass ⟨0, 0, 0, 0⟩)
theorem si_BadName_sc : FnScope [Str.ofString "self", Str.ofString "name"] [Str.ofString "self", Str.ofString "name"] (defScope si_BadName) := ⟨rfl, rfl, rfl, by decide +kernel, rfl, by decide +kernel, by decide +kernel⟩
abbrev si_BadEntry : Stmt := (clsBody (topS 4)).getD 0 (.Pass ⟨0, 0, 0, 0⟩)
theorem si_BadEntry_sc : FnScope [Str.ofString "self", Str.ofString "path"] [Str.ofString "self", Str.ofString "path"] (defScope si_BadEntry) := ⟨rfl, rfl, rfl, by decide +kernel, rfl, by decide +kernel, by decide +kernel⟩
abbrev si_BadText : Stmt := (clsBody (topS 5)).getD 0 (.Pass ⟨0, 0, 0, 0⟩)
theorem si_BadText_sc : FnScope [Str.ofString "self", Str.ofString "row"] [Str.ofString "self", Str.ofString "row"] (defScope si_BadText) := ⟨rfl, rfl, rfl, by decide +kernel, rfl, by decide +kernel, by decide +kernel⟩
abbrev si_TooMany : Stmt := (clsBody (topS 10)).getD 0 (.Pass ⟨0, 0, 0, 0⟩)
theorem si_TooMany_sc : FnScope [Str.ofString "self", Str.ofString "limit"] [Str.ofString "self", Str.ofString "limit"] (defScope si_TooMany) := ⟨rfl, rfl, rfl, by decide +kernel, rfl, by decide +kernel, by decide +kernel⟩
theorem all_mk {P : Program} {w : World} {K : PySem.W.Frag} {h : Heap} {mg : Str → Option Value} {fa : Addr} (X : K.In h) (G : h.Ns mainGlobals mg) (hfa : mg "law" = some (.ref fa))
    {f__wall : Addr} {oc__wall kV__wall dc__wall pm__wall cd__wall ct__wall : Value} {od__wall an__wall : Option Addr} {sl__wall : Array (Option Value)}
    {f_is_name : Addr} {oc_is_name kV_is_name dc_is_name pm_is_name cd_is_name ct_is_name : Value} {od_is_name an_is_name : Option Addr} {sl_is_name : Array (Option Value)}
    {f_is_path : Addr} {oc_is_path kV_is_path dc_is_path pm_is_path cd_is_path ct_is_path : Value} {od_is_path an_is_path : Option Addr} {sl_is_path : Array (Option Value)}
    {f_look_path : Addr} {oc_look_path kV_look_path dc_look_path pm_look_path cd_look_path ct_look_path : Value} {od_look_path an_look_path : Option Addr} {sl_look_path : Array (Option Value)}
    {f_names_in : Addr} {oc_names_in kV_names_in dc_names_in pm_names_in cd_names_in ct_names_in : Value} {od_names_in an_names_in : Option Addr} {sl_names_in : Array (Option Value)}
    {f_names_of : Addr} {oc_names_of kV_names_of dc_names_of pm_names_of cd_names_of ct_names_of : Value} {od_names_of an_names_of : Option Addr} {sl_names_of : Array (Option Value)}
    {f_parent_in : Addr} {oc_parent_in kV_parent_in dc_parent_in pm_parent_in cd_parent_in ct_parent_in : Value} {od_parent_in an_parent_in : Option Addr} {sl_parent_in : Array (Option Value)}
    {f_path_key : Addr} {oc_path_key kV_path_key dc_path_key pm_path_key cd_path_key ct_path_key : Value} {od_path_key an_path_key : Option Addr} {sl_path_key : Array (Option Value)}
    {f_in_order : Addr} {oc_in_order kV_in_order dc_in_order pm_in_order cd_in_order ct_in_order : Value} {od_in_order an_in_order : Option Addr} {sl_in_order : Array (Option Value)}
    {f_path_word : Addr} {oc_path_word kV_path_word dc_path_word pm_path_word cd_path_word ct_path_word : Value} {od_path_word an_path_word : Option Addr} {sl_path_word : Array (Option Value)}
    {f_row_of : Addr} {oc_row_of kV_row_of dc_row_of pm_row_of cd_row_of ct_row_of : Value} {od_row_of an_row_of : Option Addr} {sl_row_of : Array (Option Value)}
    {f_show_entries : Addr} {oc_show_entries kV_show_entries dc_show_entries pm_show_entries cd_show_entries ct_show_entries : Value} {od_show_entries an_show_entries : Option Addr} {sl_show_entries : Array (Option Value)}
    {f_is_integer : Addr} {oc_is_integer kV_is_integer dc_is_integer pm_is_integer cd_is_integer ct_is_integer : Value} {od_is_integer an_is_integer : Option Addr} {sl_is_integer : Array (Option Value)}
    {f_is_content : Addr} {oc_is_content kV_is_content dc_is_content pm_is_content cd_is_content ct_is_content : Value} {od_is_content an_is_content : Option Addr} {sl_is_content : Array (Option Value)}
    {f_is_target : Addr} {oc_is_target kV_is_target dc_is_target pm_is_target cd_is_target ct_is_target : Value} {od_is_target an_is_target : Option Addr} {sl_is_target : Array (Option Value)}
    {f_is_entry_path : Addr} {oc_is_entry_path kV_is_entry_path dc_is_entry_path pm_is_entry_path cd_is_entry_path ct_is_entry_path : Value} {od_is_entry_path an_is_entry_path : Option Addr} {sl_is_entry_path : Array (Option Value)}
    {f_kind_of : Addr} {oc_kind_of kV_kind_of dc_kind_of pm_kind_of cd_kind_of ct_kind_of : Value} {od_kind_of an_kind_of : Option Addr} {sl_kind_of : Array (Option Value)}
    {f_beginnings : Addr} {oc_beginnings kV_beginnings dc_beginnings pm_beginnings cd_beginnings ct_beginnings : Value} {od_beginnings an_beginnings : Option Addr} {sl_beginnings : Array (Option Value)}
    {f_look_entries : Addr} {oc_look_entries kV_look_entries dc_look_entries pm_look_entries cd_look_entries ct_look_entries : Value} {od_look_entries an_look_entries : Option Addr} {sl_look_entries : Array (Option Value)}
    {f_completed : Addr} {oc_completed kV_completed dc_completed pm_completed cd_completed ct_completed : Value} {od_completed an_completed : Option Addr} {sl_completed : Array (Option Value)}
    {f__law_bag : Addr} {oc__law_bag kV__law_bag dc__law_bag pm__law_bag cd__law_bag ct__law_bag : Value} {od__law_bag an__law_bag : Option Addr} {sl__law_bag : Array (Option Value)}
    {f__law_take : Addr} {oc__law_take kV__law_take dc__law_take pm__law_take cd__law_take ct__law_take : Value} {od__law_take an__law_take : Option Addr} {sl__law_take : Array (Option Value)}
    {f__law_pick : Addr} {oc__law_pick kV__law_pick dc__law_pick pm__law_pick cd__law_pick ct__law_pick : Value} {od__law_pick an__law_pick : Option Addr} {sl__law_pick : Array (Option Value)}
    {f__law_is_name : Addr} {oc__law_is_name kV__law_is_name dc__law_is_name pm__law_is_name cd__law_is_name ct__law_is_name : Value} {od__law_is_name an__law_is_name : Option Addr} {sl__law_is_name : Array (Option Value)}
    {f__law_is_path : Addr} {oc__law_is_path kV__law_is_path dc__law_is_path pm__law_is_path cd__law_is_path ct__law_is_path : Value} {od__law_is_path an__law_is_path : Option Addr} {sl__law_is_path : Array (Option Value)}
    {f__law_text : Addr} {oc__law_text kV__law_text dc__law_text pm__law_text cd__law_text ct__law_text : Value} {od__law_text an__law_text : Option Addr} {sl__law_text : Array (Option Value)}
    {f__law_others : Addr} {oc__law_others kV__law_others dc__law_others pm__law_others cd__law_others ct__law_others : Value} {od__law_others an__law_others : Option Addr} {sl__law_others : Array (Option Value)}
    {f__law_told : Addr} {oc__law_told kV__law_told dc__law_told pm__law_told cd__law_told ct__law_told : Value} {od__law_told an__law_told : Option Addr} {sl__law_told : Array (Option Value)}
    {f__law_right : Addr} {oc__law_right kV__law_right dc__law_right pm__law_right cd__law_right ct__law_right : Value} {od__law_right an__law_right : Option Addr} {sl__law_right : Array (Option Value)}
    {f_law : Addr} {oc_law kV_law dc_law pm_law cd_law ct_law : Value} {od_law an_law : Option Addr} {sl_law : Array (Option Value)}
    {C_Package : Addr}
    {t_Package_LIMIT : Tok}
    {f_Package___init__ : Addr} {oc_Package___init__ kV_Package___init__ dc_Package___init__ pm_Package___init__ cd_Package___init__ ct_Package___init__ : Value} {od_Package___init__ an_Package___init__ : Option Addr} {sl_Package___init__ : Array (Option Value)} {T_Package___init__ : Addr} {ob_Package___init__ : Value} {oe_Package___init__ : Option Addr} {sm_Package___init__ : Array (Option Value)} {n_Package___init__ : Nat}
    {f_Package___repr__ : Addr} {oc_Package___repr__ kV_Package___repr__ dc_Package___repr__ pm_Package___repr__ cd_Package___repr__ ct_Package___repr__ : Value} {od_Package___repr__ an_Package___repr__ : Option Addr} {sl_Package___repr__ : Array (Option Value)}
    {t_LETTERS : Tok}
    {t_MOST_LETTERS : Tok}
    {t_ROOT : Tok}
    {t_ROOT_WORD : Tok}
    {t_FILE : Tok}
    {t_FOLDER : Tok}
    {t_REFERENCE : Tok}
    {t_MOST_ENTRY_NAMES : Tok}
    {t_MOST_TARGET_NAMES : Tok}
    {t_MOST_CONTENT : Tok}
    {C_BadPath i_BadPath N_BadPath : Addr} {nm_BadPath q_BadPath : Str} {bs_BadPath : List Value} {sn_BadPath : List Str} {su_BadPath : List Value} {ab_BadPath : Bool} {co_BadPath : Option Bool} {dd_BadPath : Option Addr} {m0_BadPath m1_BadPath m2_BadPath m3_BadPath m5_BadPath : Option Value} {oc_BadPath kV_BadPath dc_BadPath pm_BadPath cd_BadPath ct_BadPath : Value} {od_BadPath an_BadPath : Option Addr} {sl_BadPath : Array (Option Value)}
    {C_BadName i_BadName N_BadName : Addr} {nm_BadName q_BadName : Str} {bs_BadName : List Value} {sn_BadName : List Str} {su_BadName : List Value} {ab_BadName : Bool} {co_BadName : Option Bool} {dd_BadName : Option Addr} {m0_BadName m1_BadName m2_BadName m3_BadName m5_BadName : Option Value} {oc_BadName kV_BadName dc_BadName pm_BadName cd_BadName ct_BadName : Value} {od_BadName an_BadName : Option Addr} {sl_BadName : Array (Option Value)}
    {C_BadEntry i_BadEntry N_BadEntry : Addr} {nm_BadEntry q_BadEntry : Str} {bs_BadEntry : List Value} {sn_BadEntry : List Str} {su_BadEntry : List Value} {ab_BadEntry : Bool} {co_BadEntry : Option Bool} {dd_BadEntry : Option Addr} {m0_BadEntry m1_BadEntry m2_BadEntry m3_BadEntry m5_BadEntry : Option Value} {oc_BadEntry kV_BadEntry dc_BadEntry pm_BadEntry cd_BadEntry ct_BadEntry : Value} {od_BadEntry an_BadEntry : Option Addr} {sl_BadEntry : Array (Option Value)}
    {C_BadText i_BadText N_BadText : Addr} {nm_BadText q_BadText : Str} {bs_BadText : List Value} {sn_BadText : List Str} {su_BadText : List Value} {ab_BadText : Bool} {co_BadText : Option Bool} {dd_BadText : Option Addr} {m0_BadText m1_BadText m2_BadText m3_BadText m5_BadText : Option Value} {oc_BadText kV_BadText dc_BadText pm_BadText cd_BadText ct_BadText : Value} {od_BadText an_BadText : Option Addr} {sl_BadText : Array (Option Value)}
    {C_TooMany i_TooMany N_TooMany : Addr} {nm_TooMany q_TooMany : Str} {bs_TooMany : List Value} {sn_TooMany : List Str} {su_TooMany : List Value} {ab_TooMany : Bool} {co_TooMany : Option Bool} {dd_TooMany : Option Addr} {m0_TooMany m1_TooMany m2_TooMany m3_TooMany m5_TooMany : Option Value} {oc_TooMany kV_TooMany dc_TooMany pm_TooMany cd_TooMany ct_TooMany : Value} {od_TooMany an_TooMany : Option Addr} {sl_TooMany : Array (Option Value)}
    (a__wall : PySem.W.nsIn K mainGlobals "_wall" = some (some (.ref f__wall)))
    (l__wall : K.lookup f__wall = some ⟨oc__wall, od__wall, .func (PySem.W.fnOf "_wall" "_wall" (defArgs s__wall) (defBody s__wall) (defScope s__wall) .none kV__wall dc__wall pm__wall an__wall cd__wall ct__wall), sl__wall⟩)
    (c__wall : PySem.W.codeIn K cd__wall "_wall" = true)
    (k__wall : PySem.W.keepIn K (.ref f__wall) = true)
    (a_is_name : PySem.W.nsIn K mainGlobals "is_name" = some (some (.ref f_is_name)))
    (l_is_name : K.lookup f_is_name = some ⟨oc_is_name, od_is_name, .func (PySem.W.fnOf "is_name" "is_name" (defArgs s_is_name) (defBody s_is_name) (defScope s_is_name) .none kV_is_name dc_is_name pm_is_name an_is_name cd_is_name ct_is_name), sl_is_name⟩)
    (c_is_name : PySem.W.codeIn K cd_is_name "is_name" = true)
    (k_is_name : PySem.W.keepIn K (.ref f_is_name) = true)
    (a_is_path : PySem.W.nsIn K mainGlobals "is_path" = some (some (.ref f_is_path)))
    (l_is_path : K.lookup f_is_path = some ⟨oc_is_path, od_is_path, .func (PySem.W.fnOf "is_path" "is_path" (defArgs s_is_path) (defBody s_is_path) (defScope s_is_path) .none kV_is_path dc_is_path pm_is_path an_is_path cd_is_path ct_is_path), sl_is_path⟩)
    (c_is_path : PySem.W.codeIn K cd_is_path "is_path" = true)
    (k_is_path : PySem.W.keepIn K (.ref f_is_path) = true)
    (a_look_path : PySem.W.nsIn K mainGlobals "look_path" = some (some (.ref f_look_path)))
    (l_look_path : K.lookup f_look_path = some ⟨oc_look_path, od_look_path, .func (PySem.W.fnOf "look_path" "look_path" (defArgs s_look_path) (defBody s_look_path) (defScope s_look_path) .none kV_look_path dc_look_path pm_look_path an_look_path cd_look_path ct_look_path), sl_look_path⟩)
    (c_look_path : PySem.W.codeIn K cd_look_path "look_path" = true)
    (k_look_path : PySem.W.keepIn K (.ref f_look_path) = true)
    (a_names_in : PySem.W.nsIn K mainGlobals "names_in" = some (some (.ref f_names_in)))
    (l_names_in : K.lookup f_names_in = some ⟨oc_names_in, od_names_in, .func (PySem.W.fnOf "names_in" "names_in" (defArgs s_names_in) (defBody s_names_in) (defScope s_names_in) .none kV_names_in dc_names_in pm_names_in an_names_in cd_names_in ct_names_in), sl_names_in⟩)
    (c_names_in : PySem.W.codeIn K cd_names_in "names_in" = true)
    (k_names_in : PySem.W.keepIn K (.ref f_names_in) = true)
    (a_names_of : PySem.W.nsIn K mainGlobals "names_of" = some (some (.ref f_names_of)))
    (l_names_of : K.lookup f_names_of = some ⟨oc_names_of, od_names_of, .func (PySem.W.fnOf "names_of" "names_of" (defArgs s_names_of) (defBody s_names_of) (defScope s_names_of) .none kV_names_of dc_names_of pm_names_of an_names_of cd_names_of ct_names_of), sl_names_of⟩)
    (c_names_of : PySem.W.codeIn K cd_names_of "names_of" = true)
    (k_names_of : PySem.W.keepIn K (.ref f_names_of) = true)
    (a_parent_in : PySem.W.nsIn K mainGlobals "parent_in" = some (some (.ref f_parent_in)))
    (l_parent_in : K.lookup f_parent_in = some ⟨oc_parent_in, od_parent_in, .func (PySem.W.fnOf "parent_in" "parent_in" (defArgs s_parent_in) (defBody s_parent_in) (defScope s_parent_in) .none kV_parent_in dc_parent_in pm_parent_in an_parent_in cd_parent_in ct_parent_in), sl_parent_in⟩)
    (c_parent_in : PySem.W.codeIn K cd_parent_in "parent_in" = true)
    (k_parent_in : PySem.W.keepIn K (.ref f_parent_in) = true)
    (a_path_key : PySem.W.nsIn K mainGlobals "path_key" = some (some (.ref f_path_key)))
    (l_path_key : K.lookup f_path_key = some ⟨oc_path_key, od_path_key, .func (PySem.W.fnOf "path_key" "path_key" (defArgs s_path_key) (defBody s_path_key) (defScope s_path_key) .none kV_path_key dc_path_key pm_path_key an_path_key cd_path_key ct_path_key), sl_path_key⟩)
    (c_path_key : PySem.W.codeIn K cd_path_key "path_key" = true)
    (k_path_key : PySem.W.keepIn K (.ref f_path_key) = true)
    (a_in_order : PySem.W.nsIn K mainGlobals "in_order" = some (some (.ref f_in_order)))
    (l_in_order : K.lookup f_in_order = some ⟨oc_in_order, od_in_order, .func (PySem.W.fnOf "in_order" "in_order" (defArgs s_in_order) (defBody s_in_order) (defScope s_in_order) .none kV_in_order dc_in_order pm_in_order an_in_order cd_in_order ct_in_order), sl_in_order⟩)
    (c_in_order : PySem.W.codeIn K cd_in_order "in_order" = true)
    (k_in_order : PySem.W.keepIn K (.ref f_in_order) = true)
    (a_path_word : PySem.W.nsIn K mainGlobals "path_word" = some (some (.ref f_path_word)))
    (l_path_word : K.lookup f_path_word = some ⟨oc_path_word, od_path_word, .func (PySem.W.fnOf "path_word" "path_word" (defArgs s_path_word) (defBody s_path_word) (defScope s_path_word) .none kV_path_word dc_path_word pm_path_word an_path_word cd_path_word ct_path_word), sl_path_word⟩)
    (c_path_word : PySem.W.codeIn K cd_path_word "path_word" = true)
    (k_path_word : PySem.W.keepIn K (.ref f_path_word) = true)
    (a_row_of : PySem.W.nsIn K mainGlobals "row_of" = some (some (.ref f_row_of)))
    (l_row_of : K.lookup f_row_of = some ⟨oc_row_of, od_row_of, .func (PySem.W.fnOf "row_of" "row_of" (defArgs s_row_of) (defBody s_row_of) (defScope s_row_of) .none kV_row_of dc_row_of pm_row_of an_row_of cd_row_of ct_row_of), sl_row_of⟩)
    (c_row_of : PySem.W.codeIn K cd_row_of "row_of" = true)
    (k_row_of : PySem.W.keepIn K (.ref f_row_of) = true)
    (a_show_entries : PySem.W.nsIn K mainGlobals "show_entries" = some (some (.ref f_show_entries)))
    (l_show_entries : K.lookup f_show_entries = some ⟨oc_show_entries, od_show_entries, .func (PySem.W.fnOf "show_entries" "show_entries" (defArgs s_show_entries) (defBody s_show_entries) (defScope s_show_entries) .none kV_show_entries dc_show_entries pm_show_entries an_show_entries cd_show_entries ct_show_entries), sl_show_entries⟩)
    (c_show_entries : PySem.W.codeIn K cd_show_entries "show_entries" = true)
    (k_show_entries : PySem.W.keepIn K (.ref f_show_entries) = true)
    (a_is_integer : PySem.W.nsIn K mainGlobals "is_integer" = some (some (.ref f_is_integer)))
    (l_is_integer : K.lookup f_is_integer = some ⟨oc_is_integer, od_is_integer, .func (PySem.W.fnOf "is_integer" "is_integer" (defArgs s_is_integer) (defBody s_is_integer) (defScope s_is_integer) .none kV_is_integer dc_is_integer pm_is_integer an_is_integer cd_is_integer ct_is_integer), sl_is_integer⟩)
    (c_is_integer : PySem.W.codeIn K cd_is_integer "is_integer" = true)
    (k_is_integer : PySem.W.keepIn K (.ref f_is_integer) = true)
    (a_is_content : PySem.W.nsIn K mainGlobals "is_content" = some (some (.ref f_is_content)))
    (l_is_content : K.lookup f_is_content = some ⟨oc_is_content, od_is_content, .func (PySem.W.fnOf "is_content" "is_content" (defArgs s_is_content) (defBody s_is_content) (defScope s_is_content) .none kV_is_content dc_is_content pm_is_content an_is_content cd_is_content ct_is_content), sl_is_content⟩)
    (c_is_content : PySem.W.codeIn K cd_is_content "is_content" = true)
    (k_is_content : PySem.W.keepIn K (.ref f_is_content) = true)
    (a_is_target : PySem.W.nsIn K mainGlobals "is_target" = some (some (.ref f_is_target)))
    (l_is_target : K.lookup f_is_target = some ⟨oc_is_target, od_is_target, .func (PySem.W.fnOf "is_target" "is_target" (defArgs s_is_target) (defBody s_is_target) (defScope s_is_target) .none kV_is_target dc_is_target pm_is_target an_is_target cd_is_target ct_is_target), sl_is_target⟩)
    (c_is_target : PySem.W.codeIn K cd_is_target "is_target" = true)
    (k_is_target : PySem.W.keepIn K (.ref f_is_target) = true)
    (a_is_entry_path : PySem.W.nsIn K mainGlobals "is_entry_path" = some (some (.ref f_is_entry_path)))
    (l_is_entry_path : K.lookup f_is_entry_path = some ⟨oc_is_entry_path, od_is_entry_path, .func (PySem.W.fnOf "is_entry_path" "is_entry_path" (defArgs s_is_entry_path) (defBody s_is_entry_path) (defScope s_is_entry_path) .none kV_is_entry_path dc_is_entry_path pm_is_entry_path an_is_entry_path cd_is_entry_path ct_is_entry_path), sl_is_entry_path⟩)
    (c_is_entry_path : PySem.W.codeIn K cd_is_entry_path "is_entry_path" = true)
    (k_is_entry_path : PySem.W.keepIn K (.ref f_is_entry_path) = true)
    (a_kind_of : PySem.W.nsIn K mainGlobals "kind_of" = some (some (.ref f_kind_of)))
    (l_kind_of : K.lookup f_kind_of = some ⟨oc_kind_of, od_kind_of, .func (PySem.W.fnOf "kind_of" "kind_of" (defArgs s_kind_of) (defBody s_kind_of) (defScope s_kind_of) .none kV_kind_of dc_kind_of pm_kind_of an_kind_of cd_kind_of ct_kind_of), sl_kind_of⟩)
    (c_kind_of : PySem.W.codeIn K cd_kind_of "kind_of" = true)
    (k_kind_of : PySem.W.keepIn K (.ref f_kind_of) = true)
    (a_beginnings : PySem.W.nsIn K mainGlobals "beginnings" = some (some (.ref f_beginnings)))
    (l_beginnings : K.lookup f_beginnings = some ⟨oc_beginnings, od_beginnings, .func (PySem.W.fnOf "beginnings" "beginnings" (defArgs s_beginnings) (defBody s_beginnings) (defScope s_beginnings) .none kV_beginnings dc_beginnings pm_beginnings an_beginnings cd_beginnings ct_beginnings), sl_beginnings⟩)
    (c_beginnings : PySem.W.codeIn K cd_beginnings "beginnings" = true)
    (k_beginnings : PySem.W.keepIn K (.ref f_beginnings) = true)
    (a_look_entries : PySem.W.nsIn K mainGlobals "look_entries" = some (some (.ref f_look_entries)))
    (l_look_entries : K.lookup f_look_entries = some ⟨oc_look_entries, od_look_entries, .func (PySem.W.fnOf "look_entries" "look_entries" (defArgs s_look_entries) (defBody s_look_entries) (defScope s_look_entries) .none kV_look_entries dc_look_entries pm_look_entries an_look_entries cd_look_entries ct_look_entries), sl_look_entries⟩)
    (c_look_entries : PySem.W.codeIn K cd_look_entries "look_entries" = true)
    (k_look_entries : PySem.W.keepIn K (.ref f_look_entries) = true)
    (a_completed : PySem.W.nsIn K mainGlobals "completed" = some (some (.ref f_completed)))
    (l_completed : K.lookup f_completed = some ⟨oc_completed, od_completed, .func (PySem.W.fnOf "completed" "completed" (defArgs s_completed) (defBody s_completed) (defScope s_completed) .none kV_completed dc_completed pm_completed an_completed cd_completed ct_completed), sl_completed⟩)
    (c_completed : PySem.W.codeIn K cd_completed "completed" = true)
    (k_completed : PySem.W.keepIn K (.ref f_completed) = true)
    (a__law_bag : PySem.W.nsIn K mainGlobals "_law_bag" = some (some (.ref f__law_bag)))
    (l__law_bag : K.lookup f__law_bag = some ⟨oc__law_bag, od__law_bag, .func (PySem.W.fnOf "_law_bag" "_law_bag" (defArgs s__law_bag) (defBody s__law_bag) (defScope s__law_bag) .none kV__law_bag dc__law_bag pm__law_bag an__law_bag cd__law_bag ct__law_bag), sl__law_bag⟩)
    (c__law_bag : PySem.W.codeIn K cd__law_bag "_law_bag" = true)
    (k__law_bag : PySem.W.keepIn K (.ref f__law_bag) = true)
    (a__law_take : PySem.W.nsIn K mainGlobals "_law_take" = some (some (.ref f__law_take)))
    (l__law_take : K.lookup f__law_take = some ⟨oc__law_take, od__law_take, .func (PySem.W.fnOf "_law_take" "_law_take" (defArgs s__law_take) (defBody s__law_take) (defScope s__law_take) .none kV__law_take dc__law_take pm__law_take an__law_take cd__law_take ct__law_take), sl__law_take⟩)
    (c__law_take : PySem.W.codeIn K cd__law_take "_law_take" = true)
    (k__law_take : PySem.W.keepIn K (.ref f__law_take) = true)
    (a__law_pick : PySem.W.nsIn K mainGlobals "_law_pick" = some (some (.ref f__law_pick)))
    (l__law_pick : K.lookup f__law_pick = some ⟨oc__law_pick, od__law_pick, .func (PySem.W.fnOf "_law_pick" "_law_pick" (defArgs s__law_pick) (defBody s__law_pick) (defScope s__law_pick) .none kV__law_pick dc__law_pick pm__law_pick an__law_pick cd__law_pick ct__law_pick), sl__law_pick⟩)
    (c__law_pick : PySem.W.codeIn K cd__law_pick "_law_pick" = true)
    (k__law_pick : PySem.W.keepIn K (.ref f__law_pick) = true)
    (a__law_is_name : PySem.W.nsIn K mainGlobals "_law_is_name" = some (some (.ref f__law_is_name)))
    (l__law_is_name : K.lookup f__law_is_name = some ⟨oc__law_is_name, od__law_is_name, .func (PySem.W.fnOf "_law_is_name" "_law_is_name" (defArgs s__law_is_name) (defBody s__law_is_name) (defScope s__law_is_name) .none kV__law_is_name dc__law_is_name pm__law_is_name an__law_is_name cd__law_is_name ct__law_is_name), sl__law_is_name⟩)
    (c__law_is_name : PySem.W.codeIn K cd__law_is_name "_law_is_name" = true)
    (k__law_is_name : PySem.W.keepIn K (.ref f__law_is_name) = true)
    (a__law_is_path : PySem.W.nsIn K mainGlobals "_law_is_path" = some (some (.ref f__law_is_path)))
    (l__law_is_path : K.lookup f__law_is_path = some ⟨oc__law_is_path, od__law_is_path, .func (PySem.W.fnOf "_law_is_path" "_law_is_path" (defArgs s__law_is_path) (defBody s__law_is_path) (defScope s__law_is_path) .none kV__law_is_path dc__law_is_path pm__law_is_path an__law_is_path cd__law_is_path ct__law_is_path), sl__law_is_path⟩)
    (c__law_is_path : PySem.W.codeIn K cd__law_is_path "_law_is_path" = true)
    (k__law_is_path : PySem.W.keepIn K (.ref f__law_is_path) = true)
    (a__law_text : PySem.W.nsIn K mainGlobals "_law_text" = some (some (.ref f__law_text)))
    (l__law_text : K.lookup f__law_text = some ⟨oc__law_text, od__law_text, .func (PySem.W.fnOf "_law_text" "_law_text" (defArgs s__law_text) (defBody s__law_text) (defScope s__law_text) .none kV__law_text dc__law_text pm__law_text an__law_text cd__law_text ct__law_text), sl__law_text⟩)
    (c__law_text : PySem.W.codeIn K cd__law_text "_law_text" = true)
    (k__law_text : PySem.W.keepIn K (.ref f__law_text) = true)
    (a__law_others : PySem.W.nsIn K mainGlobals "_law_others" = some (some (.ref f__law_others)))
    (l__law_others : K.lookup f__law_others = some ⟨oc__law_others, od__law_others, .func (PySem.W.fnOf "_law_others" "_law_others" (defArgs s__law_others) (defBody s__law_others) (defScope s__law_others) .none kV__law_others dc__law_others pm__law_others an__law_others cd__law_others ct__law_others), sl__law_others⟩)
    (c__law_others : PySem.W.codeIn K cd__law_others "_law_others" = true)
    (k__law_others : PySem.W.keepIn K (.ref f__law_others) = true)
    (a__law_told : PySem.W.nsIn K mainGlobals "_law_told" = some (some (.ref f__law_told)))
    (l__law_told : K.lookup f__law_told = some ⟨oc__law_told, od__law_told, .func (PySem.W.fnOf "_law_told" "_law_told" (defArgs s__law_told) (defBody s__law_told) (defScope s__law_told) .none kV__law_told dc__law_told pm__law_told an__law_told cd__law_told ct__law_told), sl__law_told⟩)
    (c__law_told : PySem.W.codeIn K cd__law_told "_law_told" = true)
    (k__law_told : PySem.W.keepIn K (.ref f__law_told) = true)
    (a__law_right : PySem.W.nsIn K mainGlobals "_law_right" = some (some (.ref f__law_right)))
    (l__law_right : K.lookup f__law_right = some ⟨oc__law_right, od__law_right, .func (PySem.W.fnOf "_law_right" "_law_right" (defArgs s__law_right) (defBody s__law_right) (defScope s__law_right) .none kV__law_right dc__law_right pm__law_right an__law_right cd__law_right ct__law_right), sl__law_right⟩)
    (c__law_right : PySem.W.codeIn K cd__law_right "_law_right" = true)
    (k__law_right : PySem.W.keepIn K (.ref f__law_right) = true)
    (a_law : PySem.W.nsIn K mainGlobals "law" = some (some (.ref f_law)))
    (l_law : K.lookup f_law = some ⟨oc_law, od_law, .func (PySem.W.fnOf "law" "law" (defArgs s_law) (defBody s_law) (defScope s_law) .none kV_law dc_law pm_law an_law cd_law ct_law), sl_law⟩)
    (c_law : PySem.W.codeIn K cd_law "law" = true)
    (k_law : PySem.W.keepIn K (.ref f_law) = true)
    (a_Package : PySem.W.nsIn K mainGlobals "Package" = some (some (.ref C_Package)))
    (u1_Package : PySem.W.plainGet K C_Package Str.empty = true)
    (u2_Package : PySem.W.hasDictIn K C_Package = true)
    (u3_Package : PySem.W.plainOver K C_Package = true)
    (u4_Package : PySem.W.findIn K (.ref C_Package) "__setattr__" = some (some (.builtin "object.__setattr__")))
    (u5_Package : PySem.W.findIn K (.ref C_Package) "__class__" = some (some (.builtin "object.__class__")))
    (u6_Package : PySem.W.mroIn K C_Package (.type "object") = some true)
    (u7_Package : PySem.W.readsIn K C_Package (.type "type") = true)
    (u8_Package : PySem.W.specialIn K (.ref C_Package) "__getattribute__" = some (some (.builtin "type.__getattribute__")))
    (u9_Package : PySem.W.makesIn K C_Package = true)
    (u0_Package : PySem.W.keepIn K (.ref C_Package) = true)
    (na_Package_rows : PySem.W.findIn K (.ref C_Package) "rows" = some none)
    (na_Package_text : PySem.W.findIn K (.ref C_Package) "text" = some none)
    (na_Package_parts : PySem.W.findIn K (.ref C_Package) "parts" = some none)
    (na_Package_sorts : PySem.W.findIn K (.ref C_Package) "sorts" = some none)
    (cv_Package_LIMIT : PySem.W.findCls K (.ref C_Package) (.type "type") "LIMIT" = some (.val (.int 40 t_Package_LIMIT)))
    (q1_Package___init__ : PySem.W.findIn K (.ref C_Package) "__init__" = some (some (.ref f_Package___init__)))
    (q2_Package___init__ : PySem.W.isFn K (.ref f_Package___init__) = true)
    (l_Package___init__ : K.lookup f_Package___init__ = some ⟨oc_Package___init__, od_Package___init__, .func (PySem.W.fnOf "__init__" "Package.__init__" (defArgs s_Package___init__) (defBody s_Package___init__) (defScope s_Package___init__) (.ref T_Package___init__) kV_Package___init__ dc_Package___init__ pm_Package___init__ an_Package___init__ cd_Package___init__ ct_Package___init__), sl_Package___init__⟩)
    (c_Package___init__ : PySem.W.codeIn K cd_Package___init__ "Package.__init__" = true)
    (k_Package___init__ : PySem.W.keepIn K (.ref f_Package___init__) = true)
    (lt_Package___init__ : K.lookup T_Package___init__ = some ⟨ob_Package___init__, oe_Package___init__, .seq #[.none] n_Package___init__, sm_Package___init__⟩)
    (q1_Package___repr__ : PySem.W.findIn K (.ref C_Package) "__repr__" = some (some (.ref f_Package___repr__)))
    (q2_Package___repr__ : PySem.W.isFn K (.ref f_Package___repr__) = true)
    (l_Package___repr__ : K.lookup f_Package___repr__ = some ⟨oc_Package___repr__, od_Package___repr__, .func (PySem.W.fnOf "__repr__" "Package.__repr__" (defArgs s_Package___repr__) (defBody s_Package___repr__) (defScope s_Package___repr__) .none kV_Package___repr__ dc_Package___repr__ pm_Package___repr__ an_Package___repr__ cd_Package___repr__ ct_Package___repr__), sl_Package___repr__⟩)
    (c_Package___repr__ : PySem.W.codeIn K cd_Package___repr__ "Package.__repr__" = true)
    (k_Package___repr__ : PySem.W.keepIn K (.ref f_Package___repr__) = true)
    (a_LETTERS : PySem.W.nsIn K mainGlobals "LETTERS" = some (some (.str "abcdefghijklmnopqrstuvwxyz" t_LETTERS)))
    (a_MOST_LETTERS : PySem.W.nsIn K mainGlobals "MOST_LETTERS" = some (some (.int 8 t_MOST_LETTERS)))
    (a_ROOT : PySem.W.nsIn K mainGlobals "ROOT" = some (some (.str "" t_ROOT)))
    (a_ROOT_WORD : PySem.W.nsIn K mainGlobals "ROOT_WORD" = some (some (.str "." t_ROOT_WORD)))
    (a_FILE : PySem.W.nsIn K mainGlobals "FILE" = some (some (.str "file" t_FILE)))
    (a_FOLDER : PySem.W.nsIn K mainGlobals "FOLDER" = some (some (.str "folder" t_FOLDER)))
    (a_REFERENCE : PySem.W.nsIn K mainGlobals "REFERENCE" = some (some (.str "reference" t_REFERENCE)))
    (a_MOST_ENTRY_NAMES : PySem.W.nsIn K mainGlobals "MOST_ENTRY_NAMES" = some (some (.int 10 t_MOST_ENTRY_NAMES)))
    (a_MOST_TARGET_NAMES : PySem.W.nsIn K mainGlobals "MOST_TARGET_NAMES" = some (some (.int 8 t_MOST_TARGET_NAMES)))
    (a_MOST_CONTENT : PySem.W.nsIn K mainGlobals "MOST_CONTENT" = some (some (.int 999999999999 t_MOST_CONTENT)))
    (a_BadPath : PySem.W.nsIn K mainGlobals "BadPath" = some (some (.ref C_BadPath)))
    (x_BadPath : K.lookup C_BadPath = some (excClassObj nm_BadPath q_BadPath C_BadPath N_BadPath bs_BadPath [.type "ValueError", .type "Exception", .type "BaseException", .type "object"] true sn_BadPath su_BadPath ab_BadPath co_BadPath dd_BadPath m0_BadPath m1_BadPath m2_BadPath m3_BadPath m5_BadPath "ValueError.__new__"))
    (sa_BadPath : PySem.W.findIn K (.ref C_BadPath) "__setattr__" = some (some (.builtin "object.__setattr__")))
    (ga_BadPath : PySem.W.findIn K (.ref C_BadPath) "__getattribute__" = some (some (.builtin "BaseException.__getattribute__")))
    (gg_BadPath : PySem.W.findIn K (.ref C_BadPath) "__getattr__" = some none)
    (n_BadPath_path : PySem.W.findIn K (.ref C_BadPath) "path" = some none)
    (i1_BadPath : PySem.W.findIn K (.ref C_BadPath) "__init__" = some (some (.ref i_BadPath)))
    (i2_BadPath : PySem.W.typeIn K (.ref i_BadPath) = some (.type "function"))
    (i3_BadPath : K.lookup i_BadPath = some ⟨oc_BadPath, od_BadPath, .func (PySem.W.fnOf "__init__" "BadPath.__init__" (defArgs si_BadPath) (defBody si_BadPath) (defScope si_BadPath) .none kV_BadPath dc_BadPath pm_BadPath an_BadPath cd_BadPath ct_BadPath), sl_BadPath⟩)
    (i4_BadPath : PySem.W.codeIn K cd_BadPath "BadPath.__init__" = true)
    (i5_BadPath : PySem.W.keepIn K (.ref i_BadPath) = true)
    (k1_BadPath : PySem.W.keepIn K (.ref C_BadPath) = true)
    (k2_BadPath : PySem.W.subIn K (.ref C_BadPath) (.type "BaseException") = some true)
    (k3_BadPath : PySem.W.typeIn K (.ref C_BadPath) = some (.type "type"))
    (k4_BadPath : PySem.W.hasDictIn K C_BadPath = true)
    (e1_BadPath : PySem.W.findIn K (.ref C_BadPath) "__class__" = some (some (.builtin "object.__class__")))
    (e2_BadPath : PySem.W.mroIn K C_BadPath (.type "object") = some true)
    (e3_BadPath : PySem.W.exmOne K (.ref C_BadPath) (.ref C_BadPath) = some true)
    (a_BadName : PySem.W.nsIn K mainGlobals "BadName" = some (some (.ref C_BadName)))
    (x_BadName : K.lookup C_BadName = some (excClassObj nm_BadName q_BadName C_BadName N_BadName bs_BadName [.type "ValueError", .type "Exception", .type "BaseException", .type "object"] true sn_BadName su_BadName ab_BadName co_BadName dd_BadName m0_BadName m1_BadName m2_BadName m3_BadName m5_BadName "ValueError.__new__"))
    (sa_BadName : PySem.W.findIn K (.ref C_BadName) "__setattr__" = some (some (.builtin "object.__setattr__")))
    (ga_BadName : PySem.W.findIn K (.ref C_BadName) "__getattribute__" = some (some (.builtin "BaseException.__getattribute__")))
    (gg_BadName : PySem.W.findIn K (.ref C_BadName) "__getattr__" = some none)
    (n_BadName_name : PySem.W.findIn K (.ref C_BadName) "name" = some none)
    (i1_BadName : PySem.W.findIn K (.ref C_BadName) "__init__" = some (some (.ref i_BadName)))
    (i2_BadName : PySem.W.typeIn K (.ref i_BadName) = some (.type "function"))
    (i3_BadName : K.lookup i_BadName = some ⟨oc_BadName, od_BadName, .func (PySem.W.fnOf "__init__" "BadName.__init__" (defArgs si_BadName) (defBody si_BadName) (defScope si_BadName) .none kV_BadName dc_BadName pm_BadName an_BadName cd_BadName ct_BadName), sl_BadName⟩)
    (i4_BadName : PySem.W.codeIn K cd_BadName "BadName.__init__" = true)
    (i5_BadName : PySem.W.keepIn K (.ref i_BadName) = true)
    (k1_BadName : PySem.W.keepIn K (.ref C_BadName) = true)
    (k2_BadName : PySem.W.subIn K (.ref C_BadName) (.type "BaseException") = some true)
    (k3_BadName : PySem.W.typeIn K (.ref C_BadName) = some (.type "type"))
    (k4_BadName : PySem.W.hasDictIn K C_BadName = true)
    (e1_BadName : PySem.W.findIn K (.ref C_BadName) "__class__" = some (some (.builtin "object.__class__")))
    (e2_BadName : PySem.W.mroIn K C_BadName (.type "object") = some true)
    (e3_BadName : PySem.W.exmOne K (.ref C_BadName) (.ref C_BadName) = some true)
    (a_BadEntry : PySem.W.nsIn K mainGlobals "BadEntry" = some (some (.ref C_BadEntry)))
    (x_BadEntry : K.lookup C_BadEntry = some (excClassObj nm_BadEntry q_BadEntry C_BadEntry N_BadEntry bs_BadEntry [.type "ValueError", .type "Exception", .type "BaseException", .type "object"] true sn_BadEntry su_BadEntry ab_BadEntry co_BadEntry dd_BadEntry m0_BadEntry m1_BadEntry m2_BadEntry m3_BadEntry m5_BadEntry "ValueError.__new__"))
    (sa_BadEntry : PySem.W.findIn K (.ref C_BadEntry) "__setattr__" = some (some (.builtin "object.__setattr__")))
    (ga_BadEntry : PySem.W.findIn K (.ref C_BadEntry) "__getattribute__" = some (some (.builtin "BaseException.__getattribute__")))
    (gg_BadEntry : PySem.W.findIn K (.ref C_BadEntry) "__getattr__" = some none)
    (n_BadEntry_path : PySem.W.findIn K (.ref C_BadEntry) "path" = some none)
    (i1_BadEntry : PySem.W.findIn K (.ref C_BadEntry) "__init__" = some (some (.ref i_BadEntry)))
    (i2_BadEntry : PySem.W.typeIn K (.ref i_BadEntry) = some (.type "function"))
    (i3_BadEntry : K.lookup i_BadEntry = some ⟨oc_BadEntry, od_BadEntry, .func (PySem.W.fnOf "__init__" "BadEntry.__init__" (defArgs si_BadEntry) (defBody si_BadEntry) (defScope si_BadEntry) .none kV_BadEntry dc_BadEntry pm_BadEntry an_BadEntry cd_BadEntry ct_BadEntry), sl_BadEntry⟩)
    (i4_BadEntry : PySem.W.codeIn K cd_BadEntry "BadEntry.__init__" = true)
    (i5_BadEntry : PySem.W.keepIn K (.ref i_BadEntry) = true)
    (k1_BadEntry : PySem.W.keepIn K (.ref C_BadEntry) = true)
    (k2_BadEntry : PySem.W.subIn K (.ref C_BadEntry) (.type "BaseException") = some true)
    (k3_BadEntry : PySem.W.typeIn K (.ref C_BadEntry) = some (.type "type"))
    (k4_BadEntry : PySem.W.hasDictIn K C_BadEntry = true)
    (e1_BadEntry : PySem.W.findIn K (.ref C_BadEntry) "__class__" = some (some (.builtin "object.__class__")))
    (e2_BadEntry : PySem.W.mroIn K C_BadEntry (.type "object") = some true)
    (e3_BadEntry : PySem.W.exmOne K (.ref C_BadEntry) (.ref C_BadEntry) = some true)
    (a_BadText : PySem.W.nsIn K mainGlobals "BadText" = some (some (.ref C_BadText)))
    (x_BadText : K.lookup C_BadText = some (excClassObj nm_BadText q_BadText C_BadText N_BadText bs_BadText [.type "ValueError", .type "Exception", .type "BaseException", .type "object"] true sn_BadText su_BadText ab_BadText co_BadText dd_BadText m0_BadText m1_BadText m2_BadText m3_BadText m5_BadText "ValueError.__new__"))
    (sa_BadText : PySem.W.findIn K (.ref C_BadText) "__setattr__" = some (some (.builtin "object.__setattr__")))
    (ga_BadText : PySem.W.findIn K (.ref C_BadText) "__getattribute__" = some (some (.builtin "BaseException.__getattribute__")))
    (gg_BadText : PySem.W.findIn K (.ref C_BadText) "__getattr__" = some none)
    (n_BadText_row : PySem.W.findIn K (.ref C_BadText) "row" = some none)
    (i1_BadText : PySem.W.findIn K (.ref C_BadText) "__init__" = some (some (.ref i_BadText)))
    (i2_BadText : PySem.W.typeIn K (.ref i_BadText) = some (.type "function"))
    (i3_BadText : K.lookup i_BadText = some ⟨oc_BadText, od_BadText, .func (PySem.W.fnOf "__init__" "BadText.__init__" (defArgs si_BadText) (defBody si_BadText) (defScope si_BadText) .none kV_BadText dc_BadText pm_BadText an_BadText cd_BadText ct_BadText), sl_BadText⟩)
    (i4_BadText : PySem.W.codeIn K cd_BadText "BadText.__init__" = true)
    (i5_BadText : PySem.W.keepIn K (.ref i_BadText) = true)
    (k1_BadText : PySem.W.keepIn K (.ref C_BadText) = true)
    (k2_BadText : PySem.W.subIn K (.ref C_BadText) (.type "BaseException") = some true)
    (k3_BadText : PySem.W.typeIn K (.ref C_BadText) = some (.type "type"))
    (k4_BadText : PySem.W.hasDictIn K C_BadText = true)
    (e1_BadText : PySem.W.findIn K (.ref C_BadText) "__class__" = some (some (.builtin "object.__class__")))
    (e2_BadText : PySem.W.mroIn K C_BadText (.type "object") = some true)
    (e3_BadText : PySem.W.exmOne K (.ref C_BadText) (.ref C_BadText) = some true)
    (a_TooMany : PySem.W.nsIn K mainGlobals "TooMany" = some (some (.ref C_TooMany)))
    (x_TooMany : K.lookup C_TooMany = some (excClassObj nm_TooMany q_TooMany C_TooMany N_TooMany bs_TooMany [.type "OverflowError", .type "ArithmeticError", .type "Exception", .type "BaseException", .type "object"] true sn_TooMany su_TooMany ab_TooMany co_TooMany dd_TooMany m0_TooMany m1_TooMany m2_TooMany m3_TooMany m5_TooMany "OverflowError.__new__"))
    (sa_TooMany : PySem.W.findIn K (.ref C_TooMany) "__setattr__" = some (some (.builtin "object.__setattr__")))
    (ga_TooMany : PySem.W.findIn K (.ref C_TooMany) "__getattribute__" = some (some (.builtin "BaseException.__getattribute__")))
    (gg_TooMany : PySem.W.findIn K (.ref C_TooMany) "__getattr__" = some none)
    (n_TooMany_limit : PySem.W.findIn K (.ref C_TooMany) "limit" = some none)
    (i1_TooMany : PySem.W.findIn K (.ref C_TooMany) "__init__" = some (some (.ref i_TooMany)))
    (i2_TooMany : PySem.W.typeIn K (.ref i_TooMany) = some (.type "function"))
    (i3_TooMany : K.lookup i_TooMany = some ⟨oc_TooMany, od_TooMany, .func (PySem.W.fnOf "__init__" "TooMany.__init__" (defArgs si_TooMany) (defBody si_TooMany) (defScope si_TooMany) .none kV_TooMany dc_TooMany pm_TooMany an_TooMany cd_TooMany ct_TooMany), sl_TooMany⟩)
    (i4_TooMany : PySem.W.codeIn K cd_TooMany "TooMany.__init__" = true)
    (i5_TooMany : PySem.W.keepIn K (.ref i_TooMany) = true)
    (k1_TooMany : PySem.W.keepIn K (.ref C_TooMany) = true)
    (k2_TooMany : PySem.W.subIn K (.ref C_TooMany) (.type "BaseException") = some true)
    (k3_TooMany : PySem.W.typeIn K (.ref C_TooMany) = some (.type "type"))
    (k4_TooMany : PySem.W.hasDictIn K C_TooMany = true)
    (e1_TooMany : PySem.W.findIn K (.ref C_TooMany) "__class__" = some (some (.builtin "object.__class__")))
    (e2_TooMany : PySem.W.mroIn K C_TooMany (.type "object") = some true)
    (e3_TooMany : PySem.W.exmOne K (.ref C_TooMany) (.ref C_TooMany) = some true)
    (zz0_OverflowError : PySem.W.nsIn K mainGlobals "OverflowError" = some none)
    (zz3_OverflowError : PySem.W.findCls K (.type "OverflowError") (.type "type") "__init__" = some (.val (.builtin "OverflowError.__init__")))
    (ki_Package_str : PySem.W.kitOne K (.ref C_Package) (.type "str") = some false)
    (kj_str_Package : PySem.W.kitOne K (.type "str") (.ref C_Package) = some false)
    (ki_Package_int : PySem.W.kitOne K (.ref C_Package) (.type "int") = some false)
    (kj_int_Package : PySem.W.kitOne K (.type "int") (.ref C_Package) = some false)
    (ki_Package_bool : PySem.W.kitOne K (.ref C_Package) (.type "bool") = some false)
    (kj_bool_Package : PySem.W.kitOne K (.type "bool") (.ref C_Package) = some false)
    (ki_Package_dict : PySem.W.kitOne K (.ref C_Package) (.type "dict") = some false)
    (kj_dict_Package : PySem.W.kitOne K (.type "dict") (.ref C_Package) = some false)
    (ki_Package_tuple : PySem.W.kitOne K (.ref C_Package) (.type "tuple") = some false)
    (kj_tuple_Package : PySem.W.kitOne K (.type "tuple") (.ref C_Package) = some false)
    (ki_Package_list : PySem.W.kitOne K (.ref C_Package) (.type "list") = some false)
    (kj_list_Package : PySem.W.kitOne K (.type "list") (.ref C_Package) = some false)
    (ki_Package_NoneType : PySem.W.kitOne K (.ref C_Package) (.type "NoneType") = some false)
    (kj_NoneType_Package : PySem.W.kitOne K (.type "NoneType") (.ref C_Package) = some false)
    (kk_Package : PySem.W.kitOne K (.ref C_Package) (.ref C_Package) = some true)
    (zz1 : PySem.W.specialIn K (.builtin "object.__class__") "__get__" = some (some (.builtin "getset_descriptor.__get__")))
    (zz2 : PySem.W.takesIn K (.builtin "object.__class__") = some true)
    (zz0 : PySem.W.nsIn K mainGlobals "ValueError" = some none)
    (zz3 : PySem.W.findCls K (.type "ValueError") (.type "type") "__init__" = some (.val (.builtin "ValueError.__init__")))
    (xi_BadPath_ValueError : PySem.W.kitOne K (.ref C_BadPath) (.type "ValueError") = some true)
    (xi_BadPath_BadName_BadText : PySem.W.kitAny K (.ref C_BadPath) ([.ref C_BadName, .ref C_BadText]) = some false)
    (m_ValueError : PySem.W.nsIn K mainGlobals "ValueError" = some none)
    (m_abs : PySem.W.nsIn K mainGlobals "abs" = some none)
    (m_all : PySem.W.nsIn K mainGlobals "all" = some none)
    (m_bool : PySem.W.nsIn K mainGlobals "bool" = some none)
    (m_dict : PySem.W.nsIn K mainGlobals "dict" = some none)
    (m_int : PySem.W.nsIn K mainGlobals "int" = some none)
    (m_isinstance : PySem.W.nsIn K mainGlobals "isinstance" = some none)
    (m_len : PySem.W.nsIn K mainGlobals "len" = some none)
    (m_list : PySem.W.nsIn K mainGlobals "list" = some none)
    (m_max : PySem.W.nsIn K mainGlobals "max" = some none)
    (m_min : PySem.W.nsIn K mainGlobals "min" = some none)
    (m_range : PySem.W.nsIn K mainGlobals "range" = some none)
    (m_repr : PySem.W.nsIn K mainGlobals "repr" = some none)
    (m_sorted : PySem.W.nsIn K mainGlobals "sorted" = some none)
    (m_str : PySem.W.nsIn K mainGlobals "str" = some none)
    (m_tuple : PySem.W.nsIn K mainGlobals "tuple" = some none) :
    ∃ m : List D → Sto → Res D, (∀ bs : Heap, K.In bs → bs.Ns mainGlobals mg → FnG P w K mg bs (L2.CX P w) 10 fa (spF 1 m)) ∧ ∀ ns : List Int, ns.length ≤ 63 → ∃ S', m [.scr ns] [] = .ok (.bl true) S' := by
  have e := hfa.symm.trans (PySem.W.mg_of X G a_law)
  cases e
  have o_BadPath : OexC K C_BadPath := ⟨⟨nm_BadPath, q_BadPath, N_BadPath, bs_BadPath, _, sn_BadPath, su_BadPath, ab_BadPath, co_BadPath, dd_BadPath, m0_BadPath, m1_BadPath, m2_BadPath, m3_BadPath, m5_BadPath, x_BadPath, by decide +kernel⟩, sa_BadPath, k2_BadPath, k3_BadPath, k1_BadPath⟩
  have F_BadPath := fun_mk (st := si_BadPath) i3_BadPath i4_BadPath i5_BadPath
  have o_BadName : OexC K C_BadName := ⟨⟨nm_BadName, q_BadName, N_BadName, bs_BadName, _, sn_BadName, su_BadName, ab_BadName, co_BadName, dd_BadName, m0_BadName, m1_BadName, m2_BadName, m3_BadName, m5_BadName, x_BadName, by decide +kernel⟩, sa_BadName, k2_BadName, k3_BadName, k1_BadName⟩
  have F_BadName := fun_mk (st := si_BadName) i3_BadName i4_BadName i5_BadName
  have o_BadEntry : OexC K C_BadEntry := ⟨⟨nm_BadEntry, q_BadEntry, N_BadEntry, bs_BadEntry, _, sn_BadEntry, su_BadEntry, ab_BadEntry, co_BadEntry, dd_BadEntry, m0_BadEntry, m1_BadEntry, m2_BadEntry, m3_BadEntry, m5_BadEntry, x_BadEntry, by decide +kernel⟩, sa_BadEntry, k2_BadEntry, k3_BadEntry, k1_BadEntry⟩
  have F_BadEntry := fun_mk (st := si_BadEntry) i3_BadEntry i4_BadEntry i5_BadEntry
  have o_BadText : OexC K C_BadText := ⟨⟨nm_BadText, q_BadText, N_BadText, bs_BadText, _, sn_BadText, su_BadText, ab_BadText, co_BadText, dd_BadText, m0_BadText, m1_BadText, m2_BadText, m3_BadText, m5_BadText, x_BadText, by decide +kernel⟩, sa_BadText, k2_BadText, k3_BadText, k1_BadText⟩
  have F_BadText := fun_mk (st := si_BadText) i3_BadText i4_BadText i5_BadText
  have o_TooMany : OexB K C_TooMany "OverflowError.__new__" [.type "OverflowError", .type "ArithmeticError", .type "Exception", .type "BaseException", .type "object"] := ⟨⟨nm_TooMany, q_TooMany, N_TooMany, bs_TooMany, sn_TooMany, su_TooMany, ab_TooMany, co_TooMany, dd_TooMany, m0_TooMany, m1_TooMany, m2_TooMany, m3_TooMany, m5_TooMany, x_TooMany⟩, sa_TooMany, k2_TooMany, k3_TooMany, k1_TooMany⟩
  have F_TooMany := fun_mk (st := si_TooMany) i3_TooMany i4_TooMany i5_TooMany
  let A : Ad := { _wall := f__wall, fd__wall := PySem.W.fnOf "_wall" "_wall" (defArgs s__wall) (defBody s__wall) (defScope s__wall) .none kV__wall dc__wall pm__wall an__wall cd__wall ct__wall, is_name := f_is_name, fd_is_name := PySem.W.fnOf "is_name" "is_name" (defArgs s_is_name) (defBody s_is_name) (defScope s_is_name) .none kV_is_name dc_is_name pm_is_name an_is_name cd_is_name ct_is_name, is_path := f_is_path, fd_is_path := PySem.W.fnOf "is_path" "is_path" (defArgs s_is_path) (defBody s_is_path) (defScope s_is_path) .none kV_is_path dc_is_path pm_is_path an_is_path cd_is_path ct_is_path, look_path := f_look_path, fd_look_path := PySem.W.fnOf "look_path" "look_path" (defArgs s_look_path) (defBody s_look_path) (defScope s_look_path) .none kV_look_path dc_look_path pm_look_path an_look_path cd_look_path ct_look_path, names_in := f_names_in, fd_names_in := PySem.W.fnOf "names_in" "names_in" (defArgs s_names_in) (defBody s_names_in) (defScope s_names_in) .none kV_names_in dc_names_in pm_names_in an_names_in cd_names_in ct_names_in, names_of := f_names_of, fd_names_of := PySem.W.fnOf "names_of" "names_of" (defArgs s_names_of) (defBody s_names_of) (defScope s_names_of) .none kV_names_of dc_names_of pm_names_of an_names_of cd_names_of ct_names_of, parent_in := f_parent_in, fd_parent_in := PySem.W.fnOf "parent_in" "parent_in" (defArgs s_parent_in) (defBody s_parent_in) (defScope s_parent_in) .none kV_parent_in dc_parent_in pm_parent_in an_parent_in cd_parent_in ct_parent_in, path_key := f_path_key, fd_path_key := PySem.W.fnOf "path_key" "path_key" (defArgs s_path_key) (defBody s_path_key) (defScope s_path_key) .none kV_path_key dc_path_key pm_path_key an_path_key cd_path_key ct_path_key, in_order := f_in_order, fd_in_order := PySem.W.fnOf "in_order" "in_order" (defArgs s_in_order) (defBody s_in_order) (defScope s_in_order) .none kV_in_order dc_in_order pm_in_order an_in_order cd_in_order ct_in_order, path_word := f_path_word, fd_path_word := PySem.W.fnOf "path_word" "path_word" (defArgs s_path_word) (defBody s_path_word) (defScope s_path_word) .none kV_path_word dc_path_word pm_path_word an_path_word cd_path_word ct_path_word, row_of := f_row_of, fd_row_of := PySem.W.fnOf "row_of" "row_of" (defArgs s_row_of) (defBody s_row_of) (defScope s_row_of) .none kV_row_of dc_row_of pm_row_of an_row_of cd_row_of ct_row_of, show_entries := f_show_entries, fd_show_entries := PySem.W.fnOf "show_entries" "show_entries" (defArgs s_show_entries) (defBody s_show_entries) (defScope s_show_entries) .none kV_show_entries dc_show_entries pm_show_entries an_show_entries cd_show_entries ct_show_entries, is_integer := f_is_integer, fd_is_integer := PySem.W.fnOf "is_integer" "is_integer" (defArgs s_is_integer) (defBody s_is_integer) (defScope s_is_integer) .none kV_is_integer dc_is_integer pm_is_integer an_is_integer cd_is_integer ct_is_integer, is_content := f_is_content, fd_is_content := PySem.W.fnOf "is_content" "is_content" (defArgs s_is_content) (defBody s_is_content) (defScope s_is_content) .none kV_is_content dc_is_content pm_is_content an_is_content cd_is_content ct_is_content, is_target := f_is_target, fd_is_target := PySem.W.fnOf "is_target" "is_target" (defArgs s_is_target) (defBody s_is_target) (defScope s_is_target) .none kV_is_target dc_is_target pm_is_target an_is_target cd_is_target ct_is_target, is_entry_path := f_is_entry_path, fd_is_entry_path := PySem.W.fnOf "is_entry_path" "is_entry_path" (defArgs s_is_entry_path) (defBody s_is_entry_path) (defScope s_is_entry_path) .none kV_is_entry_path dc_is_entry_path pm_is_entry_path an_is_entry_path cd_is_entry_path ct_is_entry_path, kind_of := f_kind_of, fd_kind_of := PySem.W.fnOf "kind_of" "kind_of" (defArgs s_kind_of) (defBody s_kind_of) (defScope s_kind_of) .none kV_kind_of dc_kind_of pm_kind_of an_kind_of cd_kind_of ct_kind_of, beginnings := f_beginnings, fd_beginnings := PySem.W.fnOf "beginnings" "beginnings" (defArgs s_beginnings) (defBody s_beginnings) (defScope s_beginnings) .none kV_beginnings dc_beginnings pm_beginnings an_beginnings cd_beginnings ct_beginnings, look_entries := f_look_entries, fd_look_entries := PySem.W.fnOf "look_entries" "look_entries" (defArgs s_look_entries) (defBody s_look_entries) (defScope s_look_entries) .none kV_look_entries dc_look_entries pm_look_entries an_look_entries cd_look_entries ct_look_entries, completed := f_completed, fd_completed := PySem.W.fnOf "completed" "completed" (defArgs s_completed) (defBody s_completed) (defScope s_completed) .none kV_completed dc_completed pm_completed an_completed cd_completed ct_completed, _law_bag := f__law_bag, fd__law_bag := PySem.W.fnOf "_law_bag" "_law_bag" (defArgs s__law_bag) (defBody s__law_bag) (defScope s__law_bag) .none kV__law_bag dc__law_bag pm__law_bag an__law_bag cd__law_bag ct__law_bag, _law_take := f__law_take, fd__law_take := PySem.W.fnOf "_law_take" "_law_take" (defArgs s__law_take) (defBody s__law_take) (defScope s__law_take) .none kV__law_take dc__law_take pm__law_take an__law_take cd__law_take ct__law_take, _law_pick := f__law_pick, fd__law_pick := PySem.W.fnOf "_law_pick" "_law_pick" (defArgs s__law_pick) (defBody s__law_pick) (defScope s__law_pick) .none kV__law_pick dc__law_pick pm__law_pick an__law_pick cd__law_pick ct__law_pick, _law_is_name := f__law_is_name, fd__law_is_name := PySem.W.fnOf "_law_is_name" "_law_is_name" (defArgs s__law_is_name) (defBody s__law_is_name) (defScope s__law_is_name) .none kV__law_is_name dc__law_is_name pm__law_is_name an__law_is_name cd__law_is_name ct__law_is_name, _law_is_path := f__law_is_path, fd__law_is_path := PySem.W.fnOf "_law_is_path" "_law_is_path" (defArgs s__law_is_path) (defBody s__law_is_path) (defScope s__law_is_path) .none kV__law_is_path dc__law_is_path pm__law_is_path an__law_is_path cd__law_is_path ct__law_is_path, _law_text := f__law_text, fd__law_text := PySem.W.fnOf "_law_text" "_law_text" (defArgs s__law_text) (defBody s__law_text) (defScope s__law_text) .none kV__law_text dc__law_text pm__law_text an__law_text cd__law_text ct__law_text, _law_others := f__law_others, fd__law_others := PySem.W.fnOf "_law_others" "_law_others" (defArgs s__law_others) (defBody s__law_others) (defScope s__law_others) .none kV__law_others dc__law_others pm__law_others an__law_others cd__law_others ct__law_others, _law_told := f__law_told, fd__law_told := PySem.W.fnOf "_law_told" "_law_told" (defArgs s__law_told) (defBody s__law_told) (defScope s__law_told) .none kV__law_told dc__law_told pm__law_told an__law_told cd__law_told ct__law_told, _law_right := f__law_right, fd__law_right := PySem.W.fnOf "_law_right" "_law_right" (defArgs s__law_right) (defBody s__law_right) (defScope s__law_right) .none kV__law_right dc__law_right pm__law_right an__law_right cd__law_right ct__law_right, law := fa, fd_law := PySem.W.fnOf "law" "law" (defArgs s_law) (defBody s_law) (defScope s_law) .none kV_law dc_law pm_law an_law cd_law ct_law, t_LETTERS := t_LETTERS, t_MOST_LETTERS := t_MOST_LETTERS, t_ROOT := t_ROOT, t_ROOT_WORD := t_ROOT_WORD, t_FILE := t_FILE, t_FOLDER := t_FOLDER, t_REFERENCE := t_REFERENCE, t_MOST_ENTRY_NAMES := t_MOST_ENTRY_NAMES, t_MOST_TARGET_NAMES := t_MOST_TARGET_NAMES, t_MOST_CONTENT := t_MOST_CONTENT, C_BadPath := C_BadPath, C_BadName := C_BadName, C_BadEntry := C_BadEntry, C_BadText := C_BadText, C_TooMany := C_TooMany, C_Package := C_Package, Package___init__ := f_Package___init__, fd_Package___init__ := PySem.W.fnOf "__init__" "Package.__init__" (defArgs s_Package___init__) (defBody s_Package___init__) (defScope s_Package___init__) (.ref T_Package___init__) kV_Package___init__ dc_Package___init__ pm_Package___init__ an_Package___init__ cd_Package___init__ ct_Package___init__, Package___repr__ := f_Package___repr__, fd_Package___repr__ := PySem.W.fnOf "__repr__" "Package.__repr__" (defArgs s_Package___repr__) (defBody s_Package___repr__) (defScope s_Package___repr__) .none kV_Package___repr__ dc_Package___repr__ pm_Package___repr__ an_Package___repr__ cd_Package___repr__ ct_Package___repr__, t_Package_LIMIT := t_Package_LIMIT }
  have T : ∀ bs : Heap, Txt P w K mg bs A := fun bs => {
    F__wall := (fun_mk (st := s__wall) l__wall c__wall k__wall),
    g__wall := (PySem.W.mg_of X G a__wall),
    k__wall := (k__wall),
    b__wall := ((fun_mk (st := s__wall) l__wall c__wall k__wall).binds fun _ _ _ _ _ _ us hl => match us, hl with | [_], _ => rfl),
    F_is_name := (fun_mk (st := s_is_name) l_is_name c_is_name k_is_name),
    g_is_name := (PySem.W.mg_of X G a_is_name),
    k_is_name := (k_is_name),
    b_is_name := ((fun_mk (st := s_is_name) l_is_name c_is_name k_is_name).binds fun _ _ _ _ _ _ us hl => match us, hl with | [_], _ => rfl),
    F_is_path := (fun_mk (st := s_is_path) l_is_path c_is_path k_is_path),
    g_is_path := (PySem.W.mg_of X G a_is_path),
    k_is_path := (k_is_path),
    b_is_path := ((fun_mk (st := s_is_path) l_is_path c_is_path k_is_path).binds fun _ _ _ _ _ _ us hl => match us, hl with | [_], _ => rfl),
    F_look_path := (fun_mk (st := s_look_path) l_look_path c_look_path k_look_path),
    g_look_path := (PySem.W.mg_of X G a_look_path),
    k_look_path := (k_look_path),
    b_look_path := ((fun_mk (st := s_look_path) l_look_path c_look_path k_look_path).binds fun _ _ _ _ _ _ us hl => match us, hl with | [_], _ => rfl),
    F_names_in := (fun_mk (st := s_names_in) l_names_in c_names_in k_names_in),
    g_names_in := (PySem.W.mg_of X G a_names_in),
    k_names_in := (k_names_in),
    b_names_in := ((fun_mk (st := s_names_in) l_names_in c_names_in k_names_in).binds fun _ _ _ _ _ _ us hl => match us, hl with | [_], _ => rfl),
    F_names_of := (fun_mk (st := s_names_of) l_names_of c_names_of k_names_of),
    g_names_of := (PySem.W.mg_of X G a_names_of),
    k_names_of := (k_names_of),
    b_names_of := ((fun_mk (st := s_names_of) l_names_of c_names_of k_names_of).binds fun _ _ _ _ _ _ us hl => match us, hl with | [_], _ => rfl),
    F_parent_in := (fun_mk (st := s_parent_in) l_parent_in c_parent_in k_parent_in),
    g_parent_in := (PySem.W.mg_of X G a_parent_in),
    k_parent_in := (k_parent_in),
    b_parent_in := ((fun_mk (st := s_parent_in) l_parent_in c_parent_in k_parent_in).binds fun _ _ _ _ _ _ us hl => match us, hl with | [_], _ => rfl),
    F_path_key := (fun_mk (st := s_path_key) l_path_key c_path_key k_path_key),
    g_path_key := (PySem.W.mg_of X G a_path_key),
    k_path_key := (k_path_key),
    b_path_key := ((fun_mk (st := s_path_key) l_path_key c_path_key k_path_key).binds fun _ _ _ _ _ _ us hl => match us, hl with | [_], _ => rfl),
    F_in_order := (fun_mk (st := s_in_order) l_in_order c_in_order k_in_order),
    g_in_order := (PySem.W.mg_of X G a_in_order),
    k_in_order := (k_in_order),
    b_in_order := ((fun_mk (st := s_in_order) l_in_order c_in_order k_in_order).binds fun _ _ _ _ _ _ us hl => match us, hl with | [_], _ => rfl),
    F_path_word := (fun_mk (st := s_path_word) l_path_word c_path_word k_path_word),
    g_path_word := (PySem.W.mg_of X G a_path_word),
    k_path_word := (k_path_word),
    b_path_word := ((fun_mk (st := s_path_word) l_path_word c_path_word k_path_word).binds fun _ _ _ _ _ _ us hl => match us, hl with | [_], _ => rfl),
    F_row_of := (fun_mk (st := s_row_of) l_row_of c_row_of k_row_of),
    g_row_of := (PySem.W.mg_of X G a_row_of),
    k_row_of := (k_row_of),
    b_row_of := ((fun_mk (st := s_row_of) l_row_of c_row_of k_row_of).binds fun _ _ _ _ _ _ us hl => match us, hl with | [_, _], _ => rfl),
    F_show_entries := (fun_mk (st := s_show_entries) l_show_entries c_show_entries k_show_entries),
    g_show_entries := (PySem.W.mg_of X G a_show_entries),
    k_show_entries := (k_show_entries),
    b_show_entries := ((fun_mk (st := s_show_entries) l_show_entries c_show_entries k_show_entries).binds fun _ _ _ _ _ _ us hl => match us, hl with | [_], _ => rfl),
    F_is_integer := (fun_mk (st := s_is_integer) l_is_integer c_is_integer k_is_integer),
    g_is_integer := (PySem.W.mg_of X G a_is_integer),
    k_is_integer := (k_is_integer),
    b_is_integer := ((fun_mk (st := s_is_integer) l_is_integer c_is_integer k_is_integer).binds fun _ _ _ _ _ _ us hl => match us, hl with | [_], _ => rfl),
    F_is_content := (fun_mk (st := s_is_content) l_is_content c_is_content k_is_content),
    g_is_content := (PySem.W.mg_of X G a_is_content),
    k_is_content := (k_is_content),
    b_is_content := ((fun_mk (st := s_is_content) l_is_content c_is_content k_is_content).binds fun _ _ _ _ _ _ us hl => match us, hl with | [_], _ => rfl),
    F_is_target := (fun_mk (st := s_is_target) l_is_target c_is_target k_is_target),
    g_is_target := (PySem.W.mg_of X G a_is_target),
    k_is_target := (k_is_target),
    b_is_target := ((fun_mk (st := s_is_target) l_is_target c_is_target k_is_target).binds fun _ _ _ _ _ _ us hl => match us, hl with | [_], _ => rfl),
    F_is_entry_path := (fun_mk (st := s_is_entry_path) l_is_entry_path c_is_entry_path k_is_entry_path),
    g_is_entry_path := (PySem.W.mg_of X G a_is_entry_path),
    k_is_entry_path := (k_is_entry_path),
    b_is_entry_path := ((fun_mk (st := s_is_entry_path) l_is_entry_path c_is_entry_path k_is_entry_path).binds fun _ _ _ _ _ _ us hl => match us, hl with | [_], _ => rfl),
    F_kind_of := (fun_mk (st := s_kind_of) l_kind_of c_kind_of k_kind_of),
    g_kind_of := (PySem.W.mg_of X G a_kind_of),
    k_kind_of := (k_kind_of),
    b_kind_of := ((fun_mk (st := s_kind_of) l_kind_of c_kind_of k_kind_of).binds fun _ _ _ _ _ _ us hl => match us, hl with | [_], _ => rfl),
    F_beginnings := (fun_mk (st := s_beginnings) l_beginnings c_beginnings k_beginnings),
    g_beginnings := (PySem.W.mg_of X G a_beginnings),
    k_beginnings := (k_beginnings),
    b_beginnings := ((fun_mk (st := s_beginnings) l_beginnings c_beginnings k_beginnings).binds fun _ _ _ _ _ _ us hl => match us, hl with | [_], _ => rfl),
    F_look_entries := (fun_mk (st := s_look_entries) l_look_entries c_look_entries k_look_entries),
    g_look_entries := (PySem.W.mg_of X G a_look_entries),
    k_look_entries := (k_look_entries),
    b_look_entries := ((fun_mk (st := s_look_entries) l_look_entries c_look_entries k_look_entries).binds fun _ _ _ _ _ _ us hl => match us, hl with | [_], _ => rfl),
    F_completed := (fun_mk (st := s_completed) l_completed c_completed k_completed),
    g_completed := (PySem.W.mg_of X G a_completed),
    k_completed := (k_completed),
    b_completed := ((fun_mk (st := s_completed) l_completed c_completed k_completed).binds fun _ _ _ _ _ _ us hl => match us, hl with | [_], _ => rfl),
    F__law_bag := (fun_mk (st := s__law_bag) l__law_bag c__law_bag k__law_bag),
    g__law_bag := (PySem.W.mg_of X G a__law_bag),
    k__law_bag := (k__law_bag),
    b__law_bag := ((fun_mk (st := s__law_bag) l__law_bag c__law_bag k__law_bag).binds fun _ _ _ _ _ _ us hl => match us, hl with | [_, _], _ => rfl),
    F__law_take := (fun_mk (st := s__law_take) l__law_take c__law_take k__law_take),
    g__law_take := (PySem.W.mg_of X G a__law_take),
    k__law_take := (k__law_take),
    b__law_take := ((fun_mk (st := s__law_take) l__law_take c__law_take k__law_take).binds fun _ _ _ _ _ _ us hl => match us, hl with | [_, _], _ => rfl),
    F__law_pick := (fun_mk (st := s__law_pick) l__law_pick c__law_pick k__law_pick),
    g__law_pick := (PySem.W.mg_of X G a__law_pick),
    k__law_pick := (k__law_pick),
    b__law_pick := ((fun_mk (st := s__law_pick) l__law_pick c__law_pick k__law_pick).binds fun _ _ _ _ _ _ us hl => match us, hl with | [_, _], _ => rfl),
    F__law_is_name := (fun_mk (st := s__law_is_name) l__law_is_name c__law_is_name k__law_is_name),
    g__law_is_name := (PySem.W.mg_of X G a__law_is_name),
    k__law_is_name := (k__law_is_name),
    b__law_is_name := ((fun_mk (st := s__law_is_name) l__law_is_name c__law_is_name k__law_is_name).binds fun _ _ _ _ _ _ us hl => match us, hl with | [_], _ => rfl),
    F__law_is_path := (fun_mk (st := s__law_is_path) l__law_is_path c__law_is_path k__law_is_path),
    g__law_is_path := (PySem.W.mg_of X G a__law_is_path),
    k__law_is_path := (k__law_is_path),
    b__law_is_path := ((fun_mk (st := s__law_is_path) l__law_is_path c__law_is_path k__law_is_path).binds fun _ _ _ _ _ _ us hl => match us, hl with | [_], _ => rfl),
    F__law_text := (fun_mk (st := s__law_text) l__law_text c__law_text k__law_text),
    g__law_text := (PySem.W.mg_of X G a__law_text),
    k__law_text := (k__law_text),
    b__law_text := ((fun_mk (st := s__law_text) l__law_text c__law_text k__law_text).binds fun _ _ _ _ _ _ us hl => match us, hl with | [_], _ => rfl),
    F__law_others := (fun_mk (st := s__law_others) l__law_others c__law_others k__law_others),
    g__law_others := (PySem.W.mg_of X G a__law_others),
    k__law_others := (k__law_others),
    b__law_others := ((fun_mk (st := s__law_others) l__law_others c__law_others k__law_others).binds fun _ _ _ _ _ _ us hl => match us, hl with | [_], _ => rfl),
    F__law_told := (fun_mk (st := s__law_told) l__law_told c__law_told k__law_told),
    g__law_told := (PySem.W.mg_of X G a__law_told),
    k__law_told := (k__law_told),
    b__law_told := ((fun_mk (st := s__law_told) l__law_told c__law_told k__law_told).binds fun _ _ _ _ _ _ us hl => match us, hl with | [_], _ => rfl),
    F__law_right := (fun_mk (st := s__law_right) l__law_right c__law_right k__law_right),
    g__law_right := (PySem.W.mg_of X G a__law_right),
    k__law_right := (k__law_right),
    b__law_right := ((fun_mk (st := s__law_right) l__law_right c__law_right k__law_right).binds fun _ _ _ _ _ _ us hl => match us, hl with | [_], _ => rfl),
    F_law := (fun_mk (st := s_law) l_law c_law k_law),
    g_law := (PySem.W.mg_of X G a_law),
    k_law := (k_law),
    b_law := ((fun_mk (st := s_law) l_law c_law k_law).binds fun _ _ _ _ _ _ us hl => match us, hl with | [_], _ => rfl),
    g_Package := (PySem.W.mg_of X G a_Package),
    cl_Package := (⟨u1_Package, u2_Package, u3_Package, u4_Package⟩),
    ic_Package := (⟨⟨u1_Package, u2_Package, u3_Package, u4_Package⟩, u5_Package, zz1, zz2, u6_Package⟩),
    cr_Package := (⟨u7_Package, u8_Package⟩),
    mk_Package := (⟨u9_Package, q1_Package___init__, q2_Package___init__, u0_Package⟩),
    na_Package_rows := (na_Package_rows),
    na_Package_text := (na_Package_text),
    na_Package_parts := (na_Package_parts),
    na_Package_sorts := (na_Package_sorts),
    cv_Package_LIMIT := (⟨cv_Package_LIMIT, ⟨_, rfl⟩⟩),
    me_Package___init__ := (⟨q1_Package___init__, q2_Package___init__, k_Package___init__⟩),
    b_Package___init__ := (binds_all (funt_mk1 (st := s_Package___init__) l_Package___init__ c_Package___init__ k_Package___init__ lt_Package___init__) fun _ _ _ _ _ _ _ us its h1 h2 => match us, its, h1, h2 with | [_, _], [_], _, _ => ⟨_, rfl, rfl⟩),
    bd_Package___init__ := (binds_dfl 1 (funt_mk1 (st := s_Package___init__) l_Package___init__ c_Package___init__ k_Package___init__ lt_Package___init__) rfl fun _ _ _ _ _ _ _ us its h1 h2 => match us, its, h1, h2 with | [_], [_], _, _ => ⟨_, rfl, rfl⟩),
    F_Package___init__ := (funt_mk1 (st := s_Package___init__) l_Package___init__ c_Package___init__ k_Package___init__ lt_Package___init__),
    me_Package___repr__ := (⟨q1_Package___repr__, q2_Package___repr__, k_Package___repr__⟩),
    b_Package___repr__ := ((funt_mk (st := s_Package___repr__) l_Package___repr__ c_Package___repr__ k_Package___repr__).bindsN fun _ _ _ _ _ _ us hl => match us, hl with | [_], _ => rfl),
    F_Package___repr__ := (funt_mk (st := s_Package___repr__) l_Package___repr__ c_Package___repr__ k_Package___repr__),
    g_LETTERS := (PySem.W.mg_of X G a_LETTERS),
    g_MOST_LETTERS := (PySem.W.mg_of X G a_MOST_LETTERS),
    g_ROOT := (PySem.W.mg_of X G a_ROOT),
    g_ROOT_WORD := (PySem.W.mg_of X G a_ROOT_WORD),
    g_FILE := (PySem.W.mg_of X G a_FILE),
    g_FOLDER := (PySem.W.mg_of X G a_FOLDER),
    g_REFERENCE := (PySem.W.mg_of X G a_REFERENCE),
    g_MOST_ENTRY_NAMES := (PySem.W.mg_of X G a_MOST_ENTRY_NAMES),
    g_MOST_TARGET_NAMES := (PySem.W.mg_of X G a_MOST_TARGET_NAMES),
    g_MOST_CONTENT := (PySem.W.mg_of X G a_MOST_CONTENT),
    xf_BadPath := (⟨ga_BadPath, gg_BadPath, k2_BadPath, k4_BadPath⟩),
    xe_BadPath := (⟨ga_BadPath, gg_BadPath, k2_BadPath, k4_BadPath, e1_BadPath, zz1, zz2, e2_BadPath⟩),
    xm_BadPath := (e3_BadPath),
    xn_BadPath_path := (n_BadPath_path),
    x_BadPath := (⟨o_BadPath, PySem.W.mg_of X G a_BadPath, ⟨i_BadPath, _, i1_BadPath, i2_BadPath, init_x F_BadPath si_BadPath_sc o_BadPath n_BadPath_path (fun cdv A outer s H E => pss_cons (ps_expr (pe_veinit rfl (PySem.W.mg_none_of X G zz0) zz3 (pa_cons (pv 0) (pa_cons pe_str pa_nil)))) (pss_one (ps_ost (pv 0) (pv 1)))), F_BadPath.binds fun _ _ _ _ _ _ us hl => match us, hl with | [_, _], _ => rfl⟩, by decide⟩),
    xf_BadName := (⟨ga_BadName, gg_BadName, k2_BadName, k4_BadName⟩),
    xe_BadName := (⟨ga_BadName, gg_BadName, k2_BadName, k4_BadName, e1_BadName, zz1, zz2, e2_BadName⟩),
    xm_BadName := (e3_BadName),
    xn_BadName_name := (n_BadName_name),
    x_BadName := (⟨o_BadName, PySem.W.mg_of X G a_BadName, ⟨i_BadName, _, i1_BadName, i2_BadName, init_x F_BadName si_BadName_sc o_BadName n_BadName_name (fun cdv A outer s H E => pss_cons (ps_expr (pe_veinit rfl (PySem.W.mg_none_of X G zz0) zz3 (pa_cons (pv 0) (pa_cons pe_str pa_nil)))) (pss_one (ps_ost (pv 0) (pv 1)))), F_BadName.binds fun _ _ _ _ _ _ us hl => match us, hl with | [_, _], _ => rfl⟩, by decide⟩),
    xf_BadEntry := (⟨ga_BadEntry, gg_BadEntry, k2_BadEntry, k4_BadEntry⟩),
    xe_BadEntry := (⟨ga_BadEntry, gg_BadEntry, k2_BadEntry, k4_BadEntry, e1_BadEntry, zz1, zz2, e2_BadEntry⟩),
    xm_BadEntry := (e3_BadEntry),
    xn_BadEntry_path := (n_BadEntry_path),
    x_BadEntry := (⟨o_BadEntry, PySem.W.mg_of X G a_BadEntry, ⟨i_BadEntry, _, i1_BadEntry, i2_BadEntry, init_x F_BadEntry si_BadEntry_sc o_BadEntry n_BadEntry_path (fun cdv A outer s H E => pss_cons (ps_expr (pe_veinit rfl (PySem.W.mg_none_of X G zz0) zz3 (pa_cons (pv 0) (pa_cons pe_str pa_nil)))) (pss_one (ps_ost (pv 0) (pv 1)))), F_BadEntry.binds fun _ _ _ _ _ _ us hl => match us, hl with | [_, _], _ => rfl⟩, by decide⟩),
    xf_BadText := (⟨ga_BadText, gg_BadText, k2_BadText, k4_BadText⟩),
    xe_BadText := (⟨ga_BadText, gg_BadText, k2_BadText, k4_BadText, e1_BadText, zz1, zz2, e2_BadText⟩),
    xm_BadText := (e3_BadText),
    xn_BadText_row := (n_BadText_row),
    x_BadText := (⟨o_BadText, PySem.W.mg_of X G a_BadText, ⟨i_BadText, _, i1_BadText, i2_BadText, init_x F_BadText si_BadText_sc o_BadText n_BadText_row (fun cdv A outer s H E => pss_cons (ps_expr (pe_veinit rfl (PySem.W.mg_none_of X G zz0) zz3 (pa_cons (pv 0) (pa_cons pe_str pa_nil)))) (pss_one (ps_ost (pv 0) (pv 1)))), F_BadText.binds fun _ _ _ _ _ _ us hl => match us, hl with | [_, _], _ => rfl⟩, by decide⟩),
    xf_TooMany := (⟨ga_TooMany, gg_TooMany, k2_TooMany, k4_TooMany⟩),
    xe_TooMany := (⟨ga_TooMany, gg_TooMany, k2_TooMany, k4_TooMany, e1_TooMany, zz1, zz2, e2_TooMany⟩),
    xm_TooMany := (e3_TooMany),
    xn_TooMany_limit := (n_TooMany_limit),
    x_TooMany := (⟨base_Overflow, o_TooMany, PySem.W.mg_of X G a_TooMany, ⟨i_TooMany, _, i1_TooMany, i2_TooMany, init_xB F_TooMany si_TooMany_sc o_TooMany n_TooMany_limit (fun cdv A outer s H E => pss_cons (ps_expr (pe_binit base_Overflow (by decide +kernel) rfl (PySem.W.mg_none_of X G zz0_OverflowError) zz3_OverflowError (pa_cons (pv 0) (pa_cons pe_str pa_nil)))) (pss_one (ps_bs base_Overflow (pv 0) (pv 1)))), F_TooMany.binds fun _ _ _ _ _ _ us hl => match us, hl with | [_, _], _ => rfl⟩⟩),
    isi := (isi_one (C := C_Package) ⟨⟨u1_Package, u2_Package, u3_Package, u4_Package⟩, u5_Package, zz1, zz2, u6_Package⟩ (List.forall_mem_cons.mpr ⟨ki_Package_str, List.forall_mem_cons.mpr ⟨ki_Package_int, List.forall_mem_cons.mpr ⟨ki_Package_bool, List.forall_mem_cons.mpr ⟨ki_Package_dict, List.forall_mem_cons.mpr ⟨ki_Package_tuple, List.forall_mem_cons.mpr ⟨ki_Package_list, List.forall_mem_cons.mpr ⟨ki_Package_NoneType, fun _ h => nomatch h⟩⟩⟩⟩⟩⟩⟩) (List.forall_mem_cons.mpr ⟨kj_str_Package, List.forall_mem_cons.mpr ⟨kj_int_Package, List.forall_mem_cons.mpr ⟨kj_bool_Package, List.forall_mem_cons.mpr ⟨kj_dict_Package, List.forall_mem_cons.mpr ⟨kj_tuple_Package, List.forall_mem_cons.mpr ⟨kj_list_Package, List.forall_mem_cons.mpr ⟨kj_NoneType_Package, fun _ h => nomatch h⟩⟩⟩⟩⟩⟩⟩) kk_Package),
    xi_BadPath_ValueError := (xi_BadPath_ValueError),
    xi_BadPath_BadName_BadText := (⟨[C_BadName, C_BadText], rfl, xi_BadPath_BadName_BadText⟩),
    m_ValueError := (PySem.W.mg_none_of X G m_ValueError),
    m_abs := (PySem.W.mg_none_of X G m_abs),
    m_all := (PySem.W.mg_none_of X G m_all),
    m_bool := (PySem.W.mg_none_of X G m_bool),
    m_dict := (PySem.W.mg_none_of X G m_dict),
    m_int := (PySem.W.mg_none_of X G m_int),
    m_isinstance := (PySem.W.mg_none_of X G m_isinstance),
    m_len := (PySem.W.mg_none_of X G m_len),
    m_list := (PySem.W.mg_none_of X G m_list),
    m_max := (PySem.W.mg_none_of X G m_max),
    m_min := (PySem.W.mg_none_of X G m_min),
    m_range := (PySem.W.mg_none_of X G m_range),
    m_repr := (PySem.W.mg_none_of X G m_repr),
    m_sorted := (PySem.W.mg_none_of X G m_sorted),
    m_str := (PySem.W.mg_none_of X G m_str),
    m_tuple := (PySem.W.mg_none_of X G m_tuple) }
  exact ⟨m_law A, fun bs _ _ => ok_law (T bs), fun ns _ => sp_law A ns⟩
end KL
set_option Elab.async false
set_option linter.all false
open PySem PySem.W PyProof.Rows
set_option maxRecDepth 100000 in
set_option maxHeartbeats 0 in
theorem PySem.Challenge.cw_linkfarms_k01_names_and_paths_of_any_val_holds : PySem.Challenge.rw_linkfarms_k01_names_and_paths_of_any_val.Holds := by
  w_on; o_law; k_head; (case hw => w_witness2)
  k_fill
  refine DL.end_walk (l := PySem.Challenge.rw_linkfarms_k01_names_and_paths_of_any_val) (n := 63) (k := 10) rfl (by decide) rfl ⟨rfl, by decide, by decide⟩ (fun w h Y => PySem.W.kIn_of Y) ?no_lists ?all_facts
  case no_lists =>
    intro p
    kernel_rfl
  case all_facts =>
    intro w mg fa h KX G hmg
    refine' KL.all_mk KX G hmg ?a__wall ?l__wall ?c__wall ?k__wall ?a_is_name ?l_is_name ?c_is_name ?k_is_name ?a_is_path ?l_is_path ?c_is_path ?k_is_path ?a_look_path ?l_look_path ?c_look_path ?k_look_path ?a_names_in ?l_names_in ?c_names_in ?k_names_in ?a_names_of ?l_names_of ?c_names_of ?k_names_of ?a_parent_in ?l_parent_in ?c_parent_in ?k_parent_in ?a_path_key ?l_path_key ?c_path_key ?k_path_key ?a_in_order ?l_in_order ?c_in_order ?k_in_order ?a_path_word ?l_path_word ?c_path_word ?k_path_word ?a_row_of ?l_row_of ?c_row_of ?k_row_of ?a_show_entries ?l_show_entries ?c_show_entries ?k_show_entries ?a_is_integer ?l_is_integer ?c_is_integer ?k_is_integer ?a_is_content ?l_is_content ?c_is_content ?k_is_content ?a_is_target ?l_is_target ?c_is_target ?k_is_target ?a_is_entry_path ?l_is_entry_path ?c_is_entry_path ?k_is_entry_path ?a_kind_of ?l_kind_of ?c_kind_of ?k_kind_of ?a_beginnings ?l_beginnings ?c_beginnings ?k_beginnings ?a_look_entries ?l_look_entries ?c_look_entries ?k_look_entries ?a_completed ?l_completed ?c_completed ?k_completed ?a__law_bag ?l__law_bag ?c__law_bag ?k__law_bag ?a__law_take ?l__law_take ?c__law_take ?k__law_take ?a__law_pick ?l__law_pick ?c__law_pick ?k__law_pick ?a__law_is_name ?l__law_is_name ?c__law_is_name ?k__law_is_name ?a__law_is_path ?l__law_is_path ?c__law_is_path ?k__law_is_path ?a__law_text ?l__law_text ?c__law_text ?k__law_text ?a__law_others ?l__law_others ?c__law_others ?k__law_others ?a__law_told ?l__law_told ?c__law_told ?k__law_told ?a__law_right ?l__law_right ?c__law_right ?k__law_right ?a_law ?l_law ?c_law ?k_law ?a_Package ?u1_Package ?u2_Package ?u3_Package ?u4_Package ?u5_Package ?u6_Package ?u7_Package ?u8_Package ?u9_Package ?u0_Package ?na_Package_rows ?na_Package_text ?na_Package_parts ?na_Package_sorts ?cv_Package_LIMIT ?q1_Package___init__ ?q2_Package___init__ ?l_Package___init__ ?c_Package___init__ ?k_Package___init__ ?lt_Package___init__ ?q1_Package___repr__ ?q2_Package___repr__ ?l_Package___repr__ ?c_Package___repr__ ?k_Package___repr__ ?a_LETTERS ?a_MOST_LETTERS ?a_ROOT ?a_ROOT_WORD ?a_FILE ?a_FOLDER ?a_REFERENCE ?a_MOST_ENTRY_NAMES ?a_MOST_TARGET_NAMES ?a_MOST_CONTENT ?a_BadPath ?x_BadPath ?sa_BadPath ?ga_BadPath ?gg_BadPath ?n_BadPath_path ?i1_BadPath ?i2_BadPath ?i3_BadPath ?i4_BadPath ?i5_BadPath ?k1_BadPath ?k2_BadPath ?k3_BadPath ?k4_BadPath ?e1_BadPath ?e2_BadPath ?e3_BadPath ?a_BadName ?x_BadName ?sa_BadName ?ga_BadName ?gg_BadName ?n_BadName_name ?i1_BadName ?i2_BadName ?i3_BadName ?i4_BadName ?i5_BadName ?k1_BadName ?k2_BadName ?k3_BadName ?k4_BadName ?e1_BadName ?e2_BadName ?e3_BadName ?a_BadEntry ?x_BadEntry ?sa_BadEntry ?ga_BadEntry ?gg_BadEntry ?n_BadEntry_path ?i1_BadEntry ?i2_BadEntry ?i3_BadEntry ?i4_BadEntry ?i5_BadEntry ?k1_BadEntry ?k2_BadEntry ?k3_BadEntry ?k4_BadEntry ?e1_BadEntry ?e2_BadEntry ?e3_BadEntry ?a_BadText ?x_BadText ?sa_BadText ?ga_BadText ?gg_BadText ?n_BadText_row ?i1_BadText ?i2_BadText ?i3_BadText ?i4_BadText ?i5_BadText ?k1_BadText ?k2_BadText ?k3_BadText ?k4_BadText ?e1_BadText ?e2_BadText ?e3_BadText ?a_TooMany ?x_TooMany ?sa_TooMany ?ga_TooMany ?gg_TooMany ?n_TooMany_limit ?i1_TooMany ?i2_TooMany ?i3_TooMany ?i4_TooMany ?i5_TooMany ?k1_TooMany ?k2_TooMany ?k3_TooMany ?k4_TooMany ?e1_TooMany ?e2_TooMany ?e3_TooMany ?zz0_OverflowError ?zz3_OverflowError ?ki_Package_str ?kj_str_Package ?ki_Package_int ?kj_int_Package ?ki_Package_bool ?kj_bool_Package ?ki_Package_dict ?kj_dict_Package ?ki_Package_tuple ?kj_tuple_Package ?ki_Package_list ?kj_list_Package ?ki_Package_NoneType ?kj_NoneType_Package ?kk_Package ?zz1 ?zz2 ?zz0 ?zz3 ?xi_BadPath_ValueError ?xi_BadPath_BadName_BadText ?m_ValueError ?m_abs ?m_all ?m_bool ?m_dict ?m_int ?m_isinstance ?m_len ?m_list ?m_max ?m_min ?m_range ?m_repr ?m_sorted ?m_str ?m_tuple
    (case a__wall => k_is)
    (case l__wall => k_is)
    (case c__wall => k_is)
    (case k__wall => k_is)
    (case a_is_name => k_is)
    (case l_is_name => k_is)
    (case c_is_name => k_is)
    (case k_is_name => k_is)
    (case a_is_path => k_is)
    (case l_is_path => k_is)
    (case c_is_path => k_is)
    (case k_is_path => k_is)
    (case a_look_path => k_is)
    (case l_look_path => k_is)
    (case c_look_path => k_is)
    (case k_look_path => k_is)
    (case a_names_in => k_is)
    (case l_names_in => k_is)
    (case c_names_in => k_is)
    (case k_names_in => k_is)
    (case a_names_of => k_is)
    (case l_names_of => k_is)
    (case c_names_of => k_is)
    (case k_names_of => k_is)
    (case a_parent_in => k_is)
    (case l_parent_in => k_is)
    (case c_parent_in => k_is)
    (case k_parent_in => k_is)
    (case a_path_key => k_is)
    (case l_path_key => k_is)
    (case c_path_key => k_is)
    (case k_path_key => k_is)
    (case a_in_order => k_is)
    (case l_in_order => k_is)
    (case c_in_order => k_is)
    (case k_in_order => k_is)
    (case a_path_word => k_is)
    (case l_path_word => k_is)
    (case c_path_word => k_is)
    (case k_path_word => k_is)
    (case a_row_of => k_is)
    (case l_row_of => k_is)
    (case c_row_of => k_is)
    (case k_row_of => k_is)
    (case a_show_entries => k_is)
    (case l_show_entries => k_is)
    (case c_show_entries => k_is)
    (case k_show_entries => k_is)
    (case a_is_integer => k_is)
    (case l_is_integer => k_is)
    (case c_is_integer => k_is)
    (case k_is_integer => k_is)
    (case a_is_content => k_is)
    (case l_is_content => k_is)
    (case c_is_content => k_is)
    (case k_is_content => k_is)
    (case a_is_target => k_is)
    (case l_is_target => k_is)
    (case c_is_target => k_is)
    (case k_is_target => k_is)
    (case a_is_entry_path => k_is)
    (case l_is_entry_path => k_is)
    (case c_is_entry_path => k_is)
    (case k_is_entry_path => k_is)
    (case a_kind_of => k_is)
    (case l_kind_of => k_is)
    (case c_kind_of => k_is)
    (case k_kind_of => k_is)
    (case a_beginnings => k_is)
    (case l_beginnings => k_is)
    (case c_beginnings => k_is)
    (case k_beginnings => k_is)
    (case a_look_entries => k_is)
    (case l_look_entries => k_is)
    (case c_look_entries => k_is)
    (case k_look_entries => k_is)
    (case a_completed => k_is)
    (case l_completed => k_is)
    (case c_completed => k_is)
    (case k_completed => k_is)
    (case a__law_bag => k_is)
    (case l__law_bag => k_is)
    (case c__law_bag => k_is)
    (case k__law_bag => k_is)
    (case a__law_take => k_is)
    (case l__law_take => k_is)
    (case c__law_take => k_is)
    (case k__law_take => k_is)
    (case a__law_pick => k_is)
    (case l__law_pick => k_is)
    (case c__law_pick => k_is)
    (case k__law_pick => k_is)
    (case a__law_is_name => k_is)
    (case l__law_is_name => k_is)
    (case c__law_is_name => k_is)
    (case k__law_is_name => k_is)
    (case a__law_is_path => k_is)
    (case l__law_is_path => k_is)
    (case c__law_is_path => k_is)
    (case k__law_is_path => k_is)
    (case a__law_text => k_is)
    (case l__law_text => k_is)
    (case c__law_text => k_is)
    (case k__law_text => k_is)
    (case a__law_others => k_is)
    (case l__law_others => k_is)
    (case c__law_others => k_is)
    (case k__law_others => k_is)
    (case a__law_told => k_is)
    (case l__law_told => k_is)
    (case c__law_told => k_is)
    (case k__law_told => k_is)
    (case a__law_right => k_is)
    (case l__law_right => k_is)
    (case c__law_right => k_is)
    (case k__law_right => k_is)
    (case a_law => k_is)
    (case l_law => k_is)
    (case c_law => k_is)
    (case k_law => k_is)
    (case a_Package => k_is)
    (case u1_Package => k_is)
    (case u2_Package => k_is)
    (case u3_Package => k_is)
    (case u4_Package => k_is)
    (case u5_Package => k_is)
    (case u6_Package => k_is)
    (case u7_Package => k_is)
    (case u8_Package => k_is)
    (case u9_Package => k_is)
    (case u0_Package => k_is)
    (case na_Package_rows => k_is)
    (case na_Package_text => k_is)
    (case na_Package_parts => k_is)
    (case na_Package_sorts => k_is)
    (case cv_Package_LIMIT => k_is)
    (case q1_Package___init__ => k_is)
    (case q2_Package___init__ => k_is)
    (case l_Package___init__ => k_is)
    (case c_Package___init__ => k_is)
    (case k_Package___init__ => k_is)
    (case lt_Package___init__ => k_is)
    (case q1_Package___repr__ => k_is)
    (case q2_Package___repr__ => k_is)
    (case l_Package___repr__ => k_is)
    (case c_Package___repr__ => k_is)
    (case k_Package___repr__ => k_is)
    (case a_LETTERS => k_is)
    (case a_MOST_LETTERS => k_is)
    (case a_ROOT => k_is)
    (case a_ROOT_WORD => k_is)
    (case a_FILE => k_is)
    (case a_FOLDER => k_is)
    (case a_REFERENCE => k_is)
    (case a_MOST_ENTRY_NAMES => k_is)
    (case a_MOST_TARGET_NAMES => k_is)
    (case a_MOST_CONTENT => k_is)
    (case a_BadPath => k_is)
    (case x_BadPath => k_is)
    (case sa_BadPath => k_is)
    (case ga_BadPath => k_is)
    (case gg_BadPath => k_is)
    (case n_BadPath_path => k_is)
    (case i1_BadPath => k_is)
    (case i2_BadPath => k_is)
    (case i3_BadPath => k_is)
    (case i4_BadPath => k_is)
    (case i5_BadPath => k_is)
    (case k1_BadPath => k_is)
    (case k2_BadPath => k_is)
    (case k3_BadPath => k_is)
    (case k4_BadPath => k_is)
    (case e1_BadPath => k_is)
    (case e2_BadPath => k_is)
    (case e3_BadPath => kernel_rfl)
    (case a_BadName => k_is)
    (case x_BadName => k_is)
    (case sa_BadName => k_is)
    (case ga_BadName => k_is)
    (case gg_BadName => k_is)
    (case n_BadName_name => k_is)
    (case i1_BadName => k_is)
    (case i2_BadName => k_is)
    (case i3_BadName => k_is)
    (case i4_BadName => k_is)
    (case i5_BadName => k_is)
    (case k1_BadName => k_is)
    (case k2_BadName => k_is)
    (case k3_BadName => k_is)
    (case k4_BadName => k_is)
    (case e1_BadName => k_is)
    (case e2_BadName => k_is)
    (case e3_BadName => kernel_rfl)
    (case a_BadEntry => k_is)
    (case x_BadEntry => k_is)
    (case sa_BadEntry => k_is)
    (case ga_BadEntry => k_is)
    (case gg_BadEntry => k_is)
    (case n_BadEntry_path => k_is)
    (case i1_BadEntry => k_is)
    (case i2_BadEntry => k_is)
    (case i3_BadEntry => k_is)
    (case i4_BadEntry => k_is)
    (case i5_BadEntry => k_is)
    (case k1_BadEntry => k_is)
    (case k2_BadEntry => k_is)
    (case k3_BadEntry => k_is)
    (case k4_BadEntry => k_is)
    (case e1_BadEntry => k_is)
    (case e2_BadEntry => k_is)
    (case e3_BadEntry => kernel_rfl)
    (case a_BadText => k_is)
    (case x_BadText => k_is)
    (case sa_BadText => k_is)
    (case ga_BadText => k_is)
    (case gg_BadText => k_is)
    (case n_BadText_row => k_is)
    (case i1_BadText => k_is)
    (case i2_BadText => k_is)
    (case i3_BadText => k_is)
    (case i4_BadText => k_is)
    (case i5_BadText => k_is)
    (case k1_BadText => k_is)
    (case k2_BadText => k_is)
    (case k3_BadText => k_is)
    (case k4_BadText => k_is)
    (case e1_BadText => k_is)
    (case e2_BadText => k_is)
    (case e3_BadText => kernel_rfl)
    (case a_TooMany => k_is)
    (case x_TooMany => k_is)
    (case sa_TooMany => k_is)
    (case ga_TooMany => k_is)
    (case gg_TooMany => k_is)
    (case n_TooMany_limit => k_is)
    (case i1_TooMany => k_is)
    (case i2_TooMany => k_is)
    (case i3_TooMany => k_is)
    (case i4_TooMany => k_is)
    (case i5_TooMany => k_is)
    (case k1_TooMany => k_is)
    (case k2_TooMany => k_is)
    (case k3_TooMany => k_is)
    (case k4_TooMany => k_is)
    (case e1_TooMany => k_is)
    (case e2_TooMany => k_is)
    (case e3_TooMany => kernel_rfl)
    (case zz0_OverflowError => k_is)
    (case zz3_OverflowError => k_is)
    (case ki_Package_str => kernel_rfl)
    (case kj_str_Package => kernel_rfl)
    (case ki_Package_int => kernel_rfl)
    (case kj_int_Package => kernel_rfl)
    (case ki_Package_bool => kernel_rfl)
    (case kj_bool_Package => kernel_rfl)
    (case ki_Package_dict => kernel_rfl)
    (case kj_dict_Package => kernel_rfl)
    (case ki_Package_tuple => kernel_rfl)
    (case kj_tuple_Package => kernel_rfl)
    (case ki_Package_list => kernel_rfl)
    (case kj_list_Package => kernel_rfl)
    (case ki_Package_NoneType => kernel_rfl)
    (case kj_NoneType_Package => kernel_rfl)
    (case kk_Package => kernel_rfl)
    (case zz1 => k_is)
    (case zz2 => k_is)
    (case zz0 => k_is)
    (case zz3 => k_is)
    (case xi_BadPath_ValueError => kernel_rfl)
    (case xi_BadPath_BadName_BadText => kernel_rfl)
    (case m_ValueError => k_is)
    (case m_abs => k_is)
    (case m_all => k_is)
    (case m_bool => k_is)
    (case m_dict => k_is)
    (case m_int => k_is)
    (case m_isinstance => k_is)
    (case m_len => k_is)
    (case m_list => k_is)
    (case m_max => k_is)
    (case m_min => k_is)
    (case m_range => k_is)
    (case m_repr => k_is)
    (case m_sorted => k_is)
    (case m_str => k_is)
    (case m_tuple => k_is)
